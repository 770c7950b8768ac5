import PyProof.Rows.All
import Wide.All
import OpenK.AllK
import Wide.FinOn
import HandS.SetFor
import HandS.SetBool
import HandS.Strs
import HandS.Conv
import HandS.DictTup
import HandS.TupLen
import HandS.WordsDict
import HandS.Small
import HandS.SortInts
import KE.KeyNested
import KE.KDictKeyed
import HandS.ForMost
import HandS.ForExc
import HandS.FStr
import HandS.IsInst
import HandS.Wide
import HandS.TupAny
import HandS.Style
import PyProof.ReprRoads
import PyProof.CallFns
import HandS.ExcIs
import HandS.ExcField
import HandS.ExcInit
import HandS.TryOnly
import KE.KExcIs
import KE.KExcSuper
import HandS.ExcBuiltin
import HandS.Ends
import PySem.Challenge.RW_maymust_k22_stages_of_a_model
set_option Elab.async false
set_option linter.all false
set_option maxRecDepth 100000
set_option maxHeartbeats 8000000
/-! MmQ: below the layer: set(list of ints), sets of ints by a comprehension, dicts whose keys are nested tuples, a thing locked for good -/
namespace Mm
open PySem PySem.Spec PyProof.Rows L2
section
variable {P : Program} {w : World} {A : Around} {E : Value → Shared → Prop} {s : Shared}
/-- a new set -/
abbrev sob (w : World) : Obj := { cls := .type "set", dict := none, data := .set #[] 0 (.fresh 0 0 (!w.params.followText "set-order")) }
abbrev Shared.psh (s : Shared) (o : Obj) : Shared := { s with heap := s.heap.push o }
set_option maxRecDepth 100000 in
set_option maxHeartbeats 3200000 in
theorem set_of_lst {l : Addr} {its : Array Value} (ns : List Int) {Q : Value → Shared → Prop} (nh : A.handled = none) (isL : s.heap.IsList l its) (are : IntsAre its.toList ns) (few : ns.length + 1 < scanBound)
    (fin : ∀ (g : Heap) (t c : Nat), SetR w g s.heap.objs.size (fun j => decide (j ∈ ns)) c → c ≤ ns.length → (∀ b o, s.heap.get? b = some o → g.get? b = some o) → Q (.ref s.heap.objs.size) { s with heap := g, toks := t }) :
    wpAny (model P w) A (call (.type "set") [.ref l]) Q E s := by
  have sz : its.size = ns.length := by
    have q := IntsAre.length are
    simpa using q
  have i0 := F.called_set.mro
  obtain ⟨c0, tl0, i1⟩ := i0
  have i2 := F.called_set.made
  have i3 := F.called_set.sub
  refine wpAny_call (codeAny_of_tree ?_)
  show wpAny _ _ (callAny (.type "set") _) _ _ _
  refine wpAny_pure ⟨Code.quiet_builtin _ (by decide +kernel), codeAny_builtin F.entry_type_call ?_⟩
  rw [Around.under_plain (weight_type_call_type "set" [.ref l] []) rfl]
  have i4 := F.called_set.notType
  have i5 := F.called_set.canCreate
  have i6 := F.typeCall_set_1 (.ref l)
  repeat (any_goals (first | assumption | wp_step))
  refine codeAny_mono (code_set_led1 (.ref l) (E := E) (Q₁ := fun ob z => ob = .ref s.heap.objs.size ∧ z = Shared.psh s (sob w)) ⟨rfl, rfl⟩) fun r z hz => ?_
  match r, hz with
  | .error e, hz => exact hz
  | .ok .next, hz => exact hz.elim
  | .ok .brk, hz => exact hz.elim
  | .ok .cont, hz => exact hz.elim
  | .ok (.ret ob), ⟨e1, e2⟩ =>
    subst e1 e2
    have at0 : (s.heap.push (sob w)).get? s.heap.objs.size = some (sob w) := Heap.get?_push_size _ rfl
    have ty0 : Shared.TypeIs (Shared.psh s (sob w)) (.ref s.heap.objs.size) "set" := ⟨_, at0, rfl⟩
    have j1 := F.called_set.init.lookup
    have j2 := F.called_set.init.bind (.ref s.heap.objs.size)
    repeat (any_goals (first | assumption | wp_step))
    refine codeAny_mono (codeAny_call_builtin (R := wants (fun r z => r = .none ∧ ∃ g t c, z = { s with heap := g, toks := t } ∧ SetR w g s.heap.objs.size (fun j => decide (j ∈ ns)) c ∧ c ≤ ns.length ∧ ∀ b o, s.heap.get? b = some o → g.get? b = some o) E)
      F.called_set.init.plain F.entry_set_init (check_set_init_1 ty0 ?_)) fun r z hz => ?_
    · obtain ⟨ol, hol, hcl, nl, hdl⟩ := isL
      obtain ⟨oc, od, oa, os⟩ := ol
      simp only at hcl hdl
      subst hcl; subst hdl
      have at1 : (s.heap.push (sob w)).get? l = some { cls := .type "list", dict := od, data := .seq its nl, slots := os } := Heap.get?_push_of_some _ hol
      have k1 := F.sub_list_set
      have k2 := F.sub_list_frozenset
      have k3 : (Value.type "list" == Value.type "dict") = false := by decide
      have il : (s.heap.push (sob w)).IsList l its := ⟨_, at1, rfl, nl, rfl⟩
      unfold Builtin.«set.__init__» noKeywords Builtin.Frozenset.updateFrom
      generalize hPI : pyIter = PI
      wp_walk
      subst hPI
      refine wpAny_pyIter_list il (wpAny_bind (wpAny_runValue ?_))
      have lS : l < s.heap.objs.size := Heap.lt_size hol
      have nh3 : A.in1.in1.in1.handled = none := by simp [nh]
      have size1 : (s.heap.push (sob w)).objs.size = s.heap.objs.size + 1 := Heap.size_push ..
      have ne1 : l ≠ (s.heap.push (sob w)).objs.size := by rw [size1]; exact Nat.ne_of_lt (Nat.lt_succ_of_lt lS)
      have ne2 : s.heap.objs.size ∉ [(s.heap.push (sob w)).objs.size, l] := by
        rw [size1]; simp only [List.mem_cons, List.not_mem_nil, or_false, not_or]
        exact ⟨Nat.ne_of_lt (Nat.lt_succ_self _), fun z => absurd lS (by rw [z]; exact Nat.lt_irrefl _)⟩
      have got : ∀ (i : Nat) (v : Value), its[i]? = some v → ∃ k t, ns[i]? = some k ∧ v = .int k t := fun i v hv => by
        have hi : i < ns.length := by rw [← sz]; exact (Array.getElem?_eq_some_iff.mp hv).1
        obtain ⟨t, e⟩ := PyProof.Rows.IntsAre.int_at are i v (by simpa using hv)
        exact ⟨ns[i], t, List.getElem?_eq_getElem hi, by rw [e]; simp [hi]⟩
      refine set_update_ints ((Walks.list nh3 _ l ne1 its).toS) s.heap.objs.size ne2 ns sz few got (its.size - 0) 0 _ (by omega) (Nat.zero_le _) ⟨⟨_, Heap.get?_push_size _ rfl, rfl, rfl⟩, il.push _⟩ ⟨0, Nat.le_refl 0, setR_new_at (Heap.get?_push_of_some _ at0)⟩ fun z c mv hc R => ?_
      obtain ⟨g, gs, dr, t, os⟩ := z
      have e1 : gs = s.gens := mv.gens
      have e2 : dr = s.drawn := mv.drawn
      have e3 : os = s.os := mv.os
      subst e1; subst e2; subst e3
      show wpAny _ _ _ _ _ _
      refine wpAny_pure ?_
      show wpAny _ _ (ret Value.none) _ _ _
      rw [sz] at hc
      refine wpAny_pure ⟨rfl, g, t, c, rfl, R, hc, fun b o e => ?_⟩
      have lt0 : b < s.heap.objs.size := Heap.lt_size e
      refine mv.heap b o ?_ (Heap.get?_push_of_some _ (Heap.get?_push_of_some _ e))
      rw [size1]
      simp only [List.mem_cons, List.not_mem_nil, or_false, not_or]
      exact ⟨Nat.ne_of_lt lt0, Nat.ne_of_lt (Nat.lt_succ_of_lt lt0)⟩
    · match r, hz with
      | .error e, hz => exact hz
      | .ok .next, hz => exact hz.elim
      | .ok .brk, hz => exact hz.elim
      | .ok .cont, hz => exact hz.elim
      | .ok (.ret _), ⟨e1, g, t, c, e2, R, hc, kp⟩ =>
        subst e1 e2
        repeat (any_goals (first | assumption | wp_step))
        exact fin _ _ _ R hc kp
end
section
variable {X : Cx}
def rSetL (K : PySem.W.Frag) (w : World) : List V → Hp → VK → Prop := fun xs H Q => ∃ (l : Addr) (ns : List Int), xs = [V.ref l] ∧ SqL K H l (ns.map V.int) ∧ ns.length < 1000 ∧
  ∀ p c, H p = none → c ≤ ns.length → Q (.ref p) (upd H p (SetO w p (fun j => decide (j ∈ ns)) c))
theorem vals_int : ∀ {ns : List Int} {vs : List Value}, Vals (ns.map V.int) vs → IntsAre vs ns
  | [], _, r => by rw [List.map_nil] at r; cases r; exact .nil
  | n :: ns, _, r => by
    rw [List.map_cons] at r
    cases r with
    | cons h t =>
      obtain ⟨tk, rfl⟩ := h
      exact .cons _ _ (vals_int t)
theorem cr_setL (hc : X.calm = true) : CallR X (.type "set") (rSetL X.K X.w) := by
  intro pins s σ H xs us Q I r h
  obtain ⟨l, ns, rfl, hq, hn, q⟩ := h
  obtain ⟨u, rfl, ru⟩ := vals1 r
  cases ru
  obtain ⟨its, rv, p, hz⟩ := I.list hq
  have sb : ns.length + 1 < scanBound := by unfold scanBound; omega
  refine set_of_lst ns (I.ok.hd hc) p.isList (by simpa using vals_int rv) sb fun g t c R hc' kp => ?_
  exact ⟨.ref _, upd H s.heap.objs.size (SetO X.w s.heap.objs.size (fun j => decide (j ∈ ns)) c), I.laid (t' := t) kp (Nat.le_refl _) (setO_new R), rfl, q _ _ (I.hok.fresh (Nat.le_refl _)) hc'⟩
end
end Mm
/-! MmR: sets of whole numbers by a comprehension; a thing locked for good -/
namespace Mm
open PySem PySem.Spec PyProof.Rows L2
section
variable {X : Cx} {pins : List (Addr × Obj)} {σ : L2.St} {H : Hp} {s : Shared}
/-- a member comes in -/
theorem add_int {E : Value → Shared → Prop} {D : Addr} {M : Int → Bool} {n : Nat} {y : Int} {t : Tok} {Q : Value → Shared → Prop} (I : Inv X pins σ H s) (hD : H D = some (SetO X.w D M n)) (few : n + 1 < scanBound)
    (fin : ∀ z, Inv X pins σ (upd H D (SetO X.w D (fun j => M j || decide (j = y)) (if M y = true then n else n + 1))) z → Q .none z) : wpAny (model X.prog X.w) X.A (call (.builtin "set.add") [.ref D, .int y t]) Q E s := by
  refine setR_add (setO_get I hD) few fun g sb new => ?_
  have there : ∃ u, g.get? D = some u := by
    have ⟨o, _, _, _, ho, _⟩ := new
    exact ⟨o, ho⟩
  exact fin _ (I.write (e := D) (t' := s.toks + 1) (by rw [hD]; trivial) (.inl rfl) (fun b u hb hu => (sb.2 b hb).trans hu) there (setO_new new))
/-- {elt for target in iter if ..}, elt a whole number: D the new set -/
def tScI (w : World) (wi : TI) (g : TG) (tt : TT) (te : TE) (vs : List Nat) : TE := fun σ H Q => wi σ H fun J H1 => ∀ D, H1 D = none → ∃ W : Nat → Nat → Hp → Prop, (∃ m, W 0 m (upd H1 D (SetO w D (fun _ => false) 0))) ∧
  ∀ i m H, W i m H → (J.stop i H ∧ Q (.ref D) H) ∨ (J.go i H ∧ ∃ Nx : Hp → Prop, (∀ H', Nx H' → ∃ m', m' < m ∧ W (i + 1) m' H') ∧ ∀ x H', J.yld i H x H' → g x (L2.wipe σ vs) H' fun σ2 H2 => L2.wipe σ2 vs = L2.wipe σ vs ∧ tt σ2 H2 fun b H3 =>
    if b = true then te σ2 H3 fun y H4 => ∃ (c : Int) (M : Int → Bool) (n : Nat), y = .int c ∧ H4 D = some (SetO w D M n) ∧ n + 1 < scanBound ∧ Nx (upd H4 D (SetO w D (fun j => M j || decide (j = c)) (if M c = true then n else n + 1))) else Nx H3)
theorem pe_scI {elt tg iter : Expr} {ifs : List Expr} {scope : Scope} {own : List (Str × Nat)} {pos : Pos} {wi : TI} {g : TG} {tt : TT} {te : TE} (hc : X.calm = true) (hN : X.N.Nodup) (hi : PI X tg iter wi) (ok : BlkOk X.N X.env.scope scope own)
    (hg : ∀ (s : Shared) (H : Hp) (C : Addr) (cl : List (Str × Addr)) (fp : List Addr), PG (X.blk s H scope (compEnvC scope cl C X.env) fp) tg g)
    (ht : ∀ (s : Shared) (H : Hp) (C : Addr) (cl : List (Str × Addr)) (fp : List Addr), PTs (X.blk s H scope (compEnvC scope cl C X.env) fp) ifs tt)
    (he : ∀ (s : Shared) (H : Hp) (C : Addr) (cl : List (Str × Addr)) (fp : List Addr), PE (X.blk s H scope (compEnvC scope cl C X.env) fp) elt te) (hs : ∀ x, foldedSetIterable iter X.env x = pure x) :
    PE X (.SetComp elt [⟨tg, iter, ifs, 0⟩] scope pos) (tScI X.w wi g tt te (own.map (·.2))) := by
  refine ⟨fun pins s σ H Q I h => ?_⟩
  rw [PpSet.eval_SetComp]
  have free : ∀ y ∈ scope.names, y.2 = .free → ∃ c, X.env.cells.lookup y.1 = some c := fun y hy e => (ok.free y hy e).elim (fun k => I.ok.has _ (.inl k)) fun k => I.ok.has _ (.inr k)
  refine wpAny_comprehension_free rfl hs (closure_ok free) ok.kind (fun y hy e => by rw [ok.uniq y hy, e]) (thn (hi.run pins s σ H _ I h) fun xv s1 hx => thn hx fun itv s2 h2 => ?_)
  obtain ⟨it, fp, tn, J, H2, e, I2, T, at2, f2, q⟩ := h2
  subst e
  refine PpSet.newSet_ok (newEnv_comp ?_)
  generalize hD : s2.heap.objs.size = D
  have dn : H2 D = none := I2.hok.fresh (Nat.le_of_eq hD)
  obtain ⟨W, ⟨m0, w0⟩, turn⟩ := q D dn
  generalize hK : upd H2 D (SetO X.w D (fun _ => false) 0) = H3 at w0
  generalize hz : ({ s2 with heap := s2.heap.push (sob X.w) } : Shared) = s3
  have hp3 : s3.heap = s2.heap.push (sob X.w) := by rw [← hz]
  have I3 : Inv X pins σ H3 s3 := by
    rw [← hz, ← hK]
    refine I2.laid (t' := s2.toks) (fun b o e => Heap.get?_push_of_some _ e) (Nat.le_of_eq hD) ?_
    rw [← hD]
    exact setO_new (setR_fresh X.w)
  have old : ∀ b ∈ fp, b < s2.heap.objs.size := fun b hb => by
    obtain ⟨o, e, _⟩ := T.obj _ _ at2 b hb
    exact Heap.lt_size e
  have f3 : ∀ b ∈ fp, FpOk X pins H3 b ∧ b < s3.heap.objs.size := fun b hb => by
    have lt := old b hb
    have ne : b ≠ D := by rw [← hD]; exact Nat.ne_of_lt lt
    refine ⟨⟨?_, (f2 b hb).2⟩, by rw [hp3, Heap.size_push]; exact Nat.lt_succ_of_lt lt⟩
    rw [← hK, upd_ne ne]
    exact (f2 b hb).1
  have at3 : tn 0 s3.heap := T.keep _ _ _ at2 fun b _ o e => by rw [hp3]; exact Heap.get?_push_of_some _ e
  have I4 := block_start I3 ok hN f3
  show codeAny _ _ (.compStart (.SetComp elt [⟨tg, iter, ifs, 0⟩] scope pos) 0 (.ref it) (.ref D) (compEnvC scope (cellsFrom (s3.heap.objs.size + 1) scope.names (cloFrom X.env.cells scope.names [])) s3.heap.objs.size X.env)) _ { s3 with heap := pushCells (s3.heap.push { cls := .type "dict", data := .dict #[] }) scope.names }
  have pg := hg s3 H3 s3.heap.objs.size (cellsFrom (s3.heap.objs.size + 1) scope.names (cloFrom X.env.cells scope.names [])) fp
  have pt := ht s3 H3 s3.heap.objs.size (cellsFrom (s3.heap.objs.size + 1) scope.names (cloFrom X.env.cells scope.names [])) fp
  have pe := he s3 H3 s3.heap.objs.size (cellsFrom (s3.heap.objs.size + 1) scope.names (cloFrom X.env.cells scope.names [])) fp
  have nf : ∀ b ∈ fp, H3 b = none := fun b hb => (f3 b hb).1.1
  generalize hce : compEnvC scope (cellsFrom (s3.heap.objs.size + 1) scope.names (cloFrom X.env.cells scope.names [])) s3.heap.objs.size X.env = ce at I4 pg pt pe ⊢
  have cL : ce.locals = s3.heap.objs.size := by subst hce; rfl
  generalize hy : ({ s3 with heap := pushCells (s3.heap.push { cls := .type "dict", data := .dict #[] }) scope.names } : Shared) = s4 at I4 ⊢
  have at4 : tn 0 s4.heap := T.keep _ _ _ at3 fun b _ o e => by rw [← hy]; exact pushCells_keeps _ _ _ _ (Heap.get?_push_of_some _ e)
  -- the walk's own things stay outside
  have own' : ∀ {τ : L2.St} {G : Hp} {z : Shared}, Inv (X.blk s3 H3 scope ce fp) [] τ G z → (∀ b ∈ fp, G b = none) → ∀ b ∈ fp, FpOk (X.blk s3 H3 scope ce fp) [] G b := fun {τ G z} J n b hb =>
    ⟨n b hb, (J.ok.exf b hb).1, J.ok.exfs b hb, .inl hb, fun x c e => (J.ok.exf b hb).2 x c e, fun p hp => absurd (show p ∈ ([] : List (Addr × Obj)) ++ [] from hp) (by simp)⟩
  refine PpSet.codeAny_compStart_set ?loop (T.self X.A 0 _ _ _ at4 ?loop)
  refine PpSet.compLoopS_any (fun n z => ∃ i G, Inv (X.blk s3 H3 scope ce fp) [] (L2.wipe σ (own.map (·.2))) G z ∧ tn i z.heap ∧ (∀ b ∈ fp, G b = none) ∧ W i n G) ?_ m0 ⟨0, H3, I4, at4, nf, w0⟩
  rintro n s5 ⟨i, H5, I5, at5, n5, w5⟩
  rcases turn i n H5 w5 with ⟨stop, qq⟩ | ⟨go, Nx, hNx, step⟩
  · refine thnF (T.done (X.blk s3 H3 scope ce fp) rfl rfl rfl hc i [] s5 _ H5 (fun _ _ => False) I5 (own' I5 n5) at5 stop) fun r s6 ⟨hr, I6⟩ => ?_
    subst hr
    have I7 : Inv X pins σ H5 s6 := I3.call' (ch := fp) I6.os I6.base I6.hok I6.bare fun b hb => by
      obtain ⟨_, a1, a2, a3, a4, a5⟩ := (f3 b hb).1
      exact ⟨a3, a1, a4, a5⟩
    have nC : H5 s3.heap.objs.size = none := by
      have z : H5 ce.locals = none := I6.free
      rwa [cL] at z
    obtain ⟨m, hn, _⟩ := I6.loc
    have hn : s6.heap.Ns ce.locals m := hn
    rw [cL] at hn
    refine ⟨m, hn, fun g sb => ?_⟩
    obtain ⟨a0, a1, a2, a3, a4, a5⟩ := I3.fpOk (Nat.le_refl _) nC
    exact ⟨.ref D, H5, I7.turned (t' := s6.toks) (fun b o hb e => (sb.2 b hb).trans e) a0 a1 a3 a4 a5, rfl, qq⟩
  · refine thnF (T.item (X.blk s3 H3 scope ce fp) rfl rfl rfl hc i [] s5 _ H5 (fun _ _ => False) I5 (own' I5 n5) at5 go) fun r s6 ⟨u, hr, h6⟩ => ?_
    subst hr
    refine thnF h6 fun _ s7 ⟨x, H7, I7, r7, y7, at7, n7⟩ => ?_
    have I8 := I7.pinned (own' I7 n7) (T.obj _ _ at7)
    refine thnF (pg.run _ s7 _ H7 x u _ I8 r7 (step x H7 y7)) fun _ s8 ⟨σ8, H8, I9, hw, q8⟩ => ?_
    refine thnF (pt.run _ s8 σ8 H8 _ I9 q8) fun b s9 ⟨H9, I10, q9⟩ => ?_
    have over : ∀ {z : Shared} {G : Hp}, Inv (X.blk s3 H3 scope ce fp) ([] ++ pinsAt fp s7.heap) σ8 G z → Nx G → ∃ m, m < n ∧ ∃ i G, Inv (X.blk s3 H3 scope ce fp) [] (L2.wipe σ (own.map (·.2))) G z ∧ tn i z.heap ∧ (∀ b ∈ fp, G b = none) ∧ W i m G := fun {z G} J nx => by
      obtain ⟨m', hm, w'⟩ := hNx G nx
      have pin : ∀ b ∈ fp, ∀ o, s7.heap.get? b = some o → z.heap.get? b = some o ∧ G b = none := fun b hb o e => by
        have k := J.pin (b, o) (List.mem_append_right _ (List.mem_append_right _ (mem_pinsAt hb e)))
        exact ⟨k.1, k.2.1⟩
      have hl : (L2.wipe σ (own.map (·.2))).length = σ8.length := by rw [← hw, wipe_length]
      refine ⟨m', hm, i + 1, G, (J.unpinned (pins := [])).weak hl (fun j v e => ?_), T.keep _ _ _ at7 fun b hb o e => (pin b hb o e).1, fun b hb => ?_, w'⟩
      · rw [← hw] at e; exact (wipe_some e).1
      · obtain ⟨o, e, _⟩ := T.obj _ _ at7 b hb
        exact (pin b hb o e).2
    cases b with
    | false =>
      rw [if_neg Bool.false_ne_true] at q9
      exact over I10 q9
    | true =>
      rw [if_pos rfl] at q9
      show wpAny _ _ _ _ _ _
      refine thnF (pe.run _ s9 σ8 H9 _ I10 q9) fun z s10 ⟨yv, H10, I11, r10, c, M, k, ey, hD10, few, nx⟩ => ?_
      subst ey
      obtain ⟨t, rfl⟩ := r10
      exact add_int (X := X.blk s3 H3 scope ce fp) I11 hD10 few fun s11 I12 => over I12 nx
/-- a thing is locked for good -/
theorem pe_lk {e : Expr} {t : TE} (h : PE X e t) : PE X e fun σ H Q => t σ H fun v H1 => Q v H1 ∨ ∃ d u, H1 d = some u ∧ Mut (some u) ∧ ∀ od, Q v (upd H1 d (.frz od u)) := by
  refine ⟨fun pins s σ H Q I hw => thn (h.run pins s σ H _ I hw) fun v s1 ⟨x, H1, I1, r, q⟩ => ?_⟩
  rcases q with q | ⟨d, u, hd, mu, q⟩
  · exact ⟨x, H1, I1, r, q⟩
  · obtain ⟨od, I2⟩ := I1.lock hd mu
    exact ⟨x, _, I2, r, q od⟩
end
end Mm
/-! MmS: dicts whose keys are tuples of whole numbers, truth values and such tuples; their values whole numbers; plain dicts by subscript -/
namespace Mm
open PySem PySem.Spec PyProof.Rows L2
mutual
/-- the value v is the key k -/
inductive NkH (K : PySem.W.Frag) (H : Hp) : V → NestedKey → Prop
  | bl (b : Bool) : NkH K H (.bl b) (.num (if b = true then 1 else 0))
  | int (i : Int) : NkH K H (.int i) (.num i)
  | tup {a : Addr} {vs : List V} {ks : List NestedKey} : SqT K H a vs → NkHs K H vs ks → NkH K H (.ref a) (.tup ks)
inductive NkHs (K : PySem.W.Frag) (H : Hp) : List V → List NestedKey → Prop
  | nil : NkHs K H [] []
  | cons {v : V} {k : NestedKey} {vs : List V} {ks : List NestedKey} : NkH K H v k → NkHs K H vs ks → NkHs K H (v :: vs) (k :: ks)
end
section
variable {X : Cx} {pins : List (Addr × Obj)} {σ : L2.St} {H : Hp} {s : Shared}
mutual
theorem nk_is (I : Inv X pins σ H s) : ∀ {v : V} {k : NestedKey} {u : Value}, NkH X.K H v k → RelV v u → NestedIs s.heap k u
  | _, _, u, .bl b, r => by cases r; exact .bool rfl
  | _, _, u, .int i, r => by obtain ⟨t, rfl⟩ := r; exact .int i t
  | _, _, u, .tup h t, r => by
    cases r
    obtain ⟨w2, r2, ⟨o, e2, hc2, n2, hd2⟩, _⟩ := I.tuple h
    exact .tup e2 hc2 hd2 (by simpa using nks_is I t r2)
theorem nks_is (I : Inv X pins σ H s) : ∀ {vs : List V} {ks : List NestedKey} {us : List Value}, NkHs X.K H vs ks → Vals vs us → NestedAll s.heap ks us
  | _, _, us, .nil, r => by cases r; exact .nil
  | _, _, us, .cons h t, r => by
    cases r with
    | cons r1 r2 => exact .cons (nk_is I h r1) (nks_is I t r2)
end
theorem SqT.stay {K : PySem.W.Frag} {H H' : Hp} {a : Addr} {xs : List V} (ht : ∀ b o, H b = some (.tup o) → H' b = some (.tup o)) (hf : ∀ b o u, H b = some (.frz o u) → H' b = some (.frz o u)) (h : SqT K H a xs) : SqT K H' a xs := by
  rcases h with (h | ⟨o, h⟩) | h
  · exact .inl (.inl (ht _ _ h))
  · exact .inl (.inr ⟨o, hf _ _ _ h⟩)
  · exact .inr h
mutual
/-- text-free keys have their hash in any world -/
def NoTx : NestedKey → Bool
  | .num _ => true
  | .tup ks => NoTxs ks
  | _ => false
def NoTxs : List NestedKey → Bool
  | [] => true
  | k :: ks => NoTx k && NoTxs ks
end
mutual
theorem hash_any {w w' : World} : ∀ k : NestedKey, NoTx k = true → k.hash w = k.hash w'
  | .num _, _ => rfl
  | .tup ks, h => by
    simp only [NoTx] at h
    rw [NestedKey.hash, NestedKey.hash, hashes_any (w := w) (w' := w') ks h]
  | .none, h => by simp [NoTx] at h
  | .text _, h => by simp [NoTx] at h
theorem hashes_any {w w' : World} : ∀ ks : List NestedKey, NoTxs ks = true → NestedKey.hashes w ks = NestedKey.hashes w' ks
  | [], _ => rfl
  | k :: ks, h => by
    simp only [NoTxs, Bool.and_eq_true] at h
    rw [NestedKey.hashes, NestedKey.hashes, hash_any (w := w) (w' := w') k h.1, hashes_any (w := w) (w' := w') ks h.2]
end
mutual
theorem nk_notx {K : PySem.W.Frag} : ∀ {v : V} {k : NestedKey}, NkH K H v k → NoTx k = true
  | _, _, .bl _ => rfl
  | _, _, .int _ => rfl
  | _, _, .tup _ t => by simp only [NoTx]; exact nks_notx t
theorem nks_notx {K : PySem.W.Frag} : ∀ {vs : List V} {ks : List NestedKey}, NkHs K H vs ks → NoTxs ks = true
  | _, _, .nil => rfl
  | _, _, .cons h t => by simp only [NoTxs, nk_notx h, nks_notx t, Bool.and_self]
end
abbrev Row := NestedKey × Addr × Value
/-- the dict's one object -/
def DnO (P : Program) (w : World) (a : Addr) (xs : List Row) : HO := .ext fun h => (a == sysModules) = false ∧ ∃ o es ep, h.get? a = some o ∧ o.ExactDict ∧ o.data = .dict es ep ∧ es.toList = xs.map (entryOfKey (nestedKind P w)) ∧ (xs.map (·.1)).Nodup
/-- the rows' keys stand -/
def DKeys (K : PySem.W.Frag) (H : Hp) (xs : List Row) : Prop := ∀ x ∈ xs, NkH K H (.ref x.2.1) x.1 ∧ x.1.depth ≤ 8
theorem dno_world {P P' : Program} {w w' : World} {a : Addr} {xs : List Row} (h : ∀ x ∈ xs, NoTx x.1 = true) : DnO P w a xs = DnO P' w' a xs := by
  have e : xs.map (entryOfKey (nestedKind P w)) = xs.map (entryOfKey (nestedKind P' w')) := by
    refine List.map_congr_left fun x hx => ?_
    show (⟨x.1.hash w, _, _⟩ : DictEntry) = ⟨x.1.hash w', _, _⟩
    rw [hash_any x.1 (h x hx)]
  unfold DnO
  rw [e]
theorem dno_ok {P : Program} {w : World} {h : Heap} {a : Addr} {xs : List Row} (n : (a == sysModules) = false) (dd : h.DictOfH (nestedKind P w) a xs) : ObjOk P w H h a (DnO P w a xs) := by
  obtain ⟨o, es, ep, h1, h2, h3, h4, _, h5⟩ := dd
  refine ⟨⟨n, o, es, ep, h1, h2, h3, h4, h5⟩, ⟨o, h1⟩, fun g g' ⟨n, o, es, ep, k1, k⟩ kp => ⟨n, o, es, ep, kp o k1, k⟩⟩
theorem dno_get (I : Inv X pins σ H s) {P' : Program} {w' : World} {a : Addr} {xs : List Row} (h : H a = some (DnO P' w' a xs)) (ks : DKeys X.K H xs) : (a == sysModules) = false ∧ s.heap.DictOfH (nestedKind X.prog X.w) a xs := by
  rw [dno_world (P' := X.prog) (w' := X.w) fun x hx => nk_notx (ks x hx).1] at h
  obtain ⟨⟨n, o, es, ep, h1, h2, h3, h4, h5⟩, _⟩ : ObjOk X.prog X.w H s.heap a (DnO X.prog X.w a xs) := I.hok a _ h
  exact ⟨n, o, es, ep, h1, h2, h3, h4, fun x hx => ⟨nk_is I (ks x hx).1 rfl, (ks x hx).2⟩, h5⟩
variable {a : Addr} {xs : List Row} {k : NestedKey}
/-- what stands at a row -/
def valN (xs : List Row) (k : NestedKey) : Option Value := (atKey xs k).map (·.2)
/-- k in d -/
def rInN (K : PySem.W.Frag) (neg : Bool) : R2 := fun x y H Q => ∃ b a P w xs k, x = .ref b ∧ y = .ref a ∧ H a = some (DnO P w a xs) ∧ DKeys K H xs ∧ NkH K H (.ref b) k ∧ k.depth ≤ 8 ∧ Q (.bl (if neg then !(valN xs k).isSome else (valN xs k).isSome)) H
theorem op_inN (hu : X.A.units + 9 < cLine) : OpR X (compareOp .In) (rInN X.K false) := by
  intro pins s σ H x y v u Q I rx ry h
  obtain ⟨b, a, P, w, xs, k, rfl, rfl, ha, hk, hb, hd, q⟩ := h
  cases rx; cases ry
  obtain ⟨n, dd⟩ := dno_get I ha hk
  refine wpAny_in_heap (knd := nestedKind X.prog X.w) (show X.A.units + 1 + 8 < cLine from hu) ⟨nk_is I hb rfl, hd⟩ n dd ?_
  have e : (atKey xs k).isSome = (valN xs k).isSome := by unfold valN; rw [Option.isSome_map]
  rw [e]
  exact ⟨.bl _, H, I.tok _, rfl, q⟩
theorem op_notInN (hu : X.A.units + 9 < cLine) : OpR X (compareOp .NotIn) (rInN X.K true) := by
  intro pins s σ H x y v u Q I rx ry h
  obtain ⟨b, a, P, w, xs, k, rfl, rfl, ha, hk, hb, hd, q⟩ := h
  cases rx; cases ry
  obtain ⟨n, dd⟩ := dno_get I ha hk
  refine wpAny_notIn_heap (knd := nestedKind X.prog X.w) (show X.A.units + 1 + 8 < cLine from hu) ⟨nk_is I hb rfl, hd⟩ n dd ?_
  have e : (atKey xs k).isSome = (valN xs k).isSome := by unfold valN; rw [Option.isSome_map]
  rw [e]
  exact ⟨.bl _, H, I.tok _, rfl, q⟩
/-- d[k] -/
def rIxN (K : PySem.W.Frag) : R2 := fun x y H Q => ∃ b a P w xs k i t, x = .ref a ∧ y = .ref b ∧ H a = some (DnO P w a xs) ∧ DKeys K H xs ∧ NkH K H (.ref b) k ∧ k.depth ≤ 8 ∧ valN xs k = some (.int i t) ∧ Q (.int i) H
theorem ix_N (hu : X.A.units + 9 < cLine) : IxR X (rIxN X.K) := by
  intro value slice pins s σ H x y v u Q I rx ry h hs
  obtain ⟨b, a, P, w, xs, k, i, t, rfl, rfl, ha, hk, hb, hd, hv, q⟩ := h
  cases rx; cases ry
  obtain ⟨n, dd⟩ := dno_get I ha hk
  unfold valN at hv
  obtain ⟨p, hp, hp2⟩ := Option.map_eq_some_iff.mp hv
  refine tail_any dd.typeIs slot_dict_getitem.lookup (wpAny_getItem_heap (knd := nestedKind X.prog X.w) (show X.A.units + 1 + 8 < cLine from hu) ⟨nk_is I hb rfl, hd⟩ dd hp ?_) hs
  rw [hp2]
  exact ⟨.int i, H, I.tok _, ⟨t, rfl⟩, q⟩
/-- d[k], the keys whole numbers and texts -/
def rIxK : R2 := fun x y H Q => ∃ a kvs k v, x = .ref a ∧ y = kV k ∧ Rd H a (.dK kvs) ∧ valV kvs k = some v ∧ Q v H
theorem ix_K (hu : X.A.units + 1 < cLine) : IxR X rIxK := by
  intro value slice pins s σ H x y v u Q I rx ry h hs
  obtain ⟨a, kvs, k, z, rfl, rfl, ha, hv, q⟩ := h
  cases rx
  have g : DGet H a (kV k) (some z) := .inl ⟨kvs, k, ha, rfl, hv.symm⟩
  exact tail_any (dict_typeIs I g) slot_dict_getitem.lookup (d_getItem hu I g ry fun w' s3 I3 rw' => ⟨z, H, I3, rw', q⟩) hs
/-- k in d, the keys whole numbers and texts -/
def rInK (neg : Bool) : R2 := fun x y H Q => ∃ a kvs k, x = kV k ∧ y = .ref a ∧ Rd H a (.dK kvs) ∧ Q (.bl (if neg then !(valV kvs k).isSome else (valV kvs k).isSome)) H
theorem op_inK (hu : X.A.units + 1 < cLine) : OpR X (compareOp .In) (rInK false) := by
  intro pins s σ H x y v u Q I rx ry h
  obtain ⟨a, kvs, k, rfl, rfl, ha, q⟩ := h
  cases ry
  exact d_in hu I (.inl ⟨kvs, k, ha, rfl, rfl⟩) rx fun s3 I3 => ⟨.bl _, H, I3, rfl, q⟩
theorem op_notInK (hu : X.A.units + 1 < cLine) : OpR X (compareOp .NotIn) (rInK true) := by
  intro pins s σ H x y v u Q I rx ry h
  obtain ⟨a, kvs, k, rfl, rfl, ha, q⟩ := h
  cases ry
  exact d_notIn hu I (.inl ⟨kvs, k, ha, rfl, rfl⟩) rx fun s3 I3 => ⟨.bl _, H, I3, rfl, q⟩
/-- d[k] = a whole number -/
def rSetN (K : PySem.W.Frag) : TSet := fun o i v H Q => ∃ b a P w xs k n, o = .ref a ∧ i = .ref b ∧ v = .int n ∧ H a = some (DnO P w a xs) ∧ DKeys K H xs ∧ NkH K H (.ref b) k ∧ k.depth ≤ 8 ∧ xs.length < sizeLine ∧
  (∀ t P w, Q (upd H a (DnO P w a (storedH xs k b (.int n t)))))
theorem set_N (hu : X.A.units + 9 < cLine) : PSet X (rSetN X.K) := by
  intro pins s σ H o i v ov iv u Q I ro ri rv h
  obtain ⟨b, a, P, w, xs, k, n, rfl, rfl, rfl, ha, hk, hb, hd, hl, q⟩ := h
  cases ro; cases ri
  obtain ⟨t, rfl⟩ := rv
  obtain ⟨ns, dd⟩ := dno_get I ha hk
  refine wpAny_setItem_heap (knd := nestedKind X.prog X.w) (hsz := by omega) (show X.A.units + 1 + 8 < cLine from hu) ⟨nk_is I hb rfl, hd⟩ dd fun g dd' hs => ⟨_, d_write I (by rw [ha]; exact True.intro) hs ?_ (dno_ok ns dd'), q t _ _⟩
  obtain ⟨o', es, ep, h1, _⟩ := dd'
  exact ⟨o', h1⟩
/-- len(d) -/
def rLenN (K : PySem.W.Frag) : List V → Hp → VK → Prop := fun vs H Q => ∃ a P w xs, vs = [V.ref a] ∧ H a = some (DnO P w a xs) ∧ DKeys K H xs ∧ xs.length ≤ sizeLine ∧ Q (.int ((xs.length : Nat) : Int)) H
theorem call_lenN : CallR X (.builtin "len") (rLenN X.K) := by
  intro pins s σ H xs us Q I r h
  obtain ⟨a, P, w, rows, rfl, ha, hk, hz, q⟩ := h
  obtain ⟨u, rfl, rx⟩ := vals1 r
  cases rx
  obtain ⟨n, dd⟩ := dno_get I ha hk
  refine call_len_dictH n dd (by rw [sizeLine_eq] at hz; omega) ?_
  exact ⟨.int ((rows.length : Nat) : Int), H, I.tok _, ⟨_, rfl⟩, q⟩
/-- {} -/
theorem pe_dnewN {pos : Pos} : PE X (.Dict [] [] pos) fun _ H Q => ∀ p P w, H p = none → Q (.ref p) (upd H p (DnO P w p [])) := ⟨fun pins s σ H Q I h => by
  refine wpAny_Dict_empty ⟨.ref s.heap.objs.size, _, I.laid (a := s.heap.objs.size) (o := DnO X.prog X.w s.heap.objs.size []) (t' := s.toks) (fun _ _ q => Heap.get?_push_of_some _ q) (Nat.le_refl _) ?_, rfl, h _ _ _ (I.hok.fresh (Nat.le_refl _))⟩
  exact dno_ok (dk_empty (P := X.prog) (w := X.w) (H := H) s.heap I.big).2.1 (Heap.DictOfH.new s.heap)⟩
end
end Mm
/-! MmA: deep values U over the hand layer's V, the store of mutable objects, relations -/
namespace Mm
open PySem L2
inductive U where
  | non | bl (b : Bool) | int (i : Int) | str (s : List Nat)
  | tup (xs : List U) | lst (xs : List U) | ls (xs : List U) | ref (a : Addr)
  /-- a dict that is not changed any more: its keys, its values -/
  | dct (ks : List L2.Key) (xs : List U)
/-- the mutable things -/
inductive Ob where
  | lst (xs : List U)
  | ins (c : Nat) (fs : List (Str × U))
  /-- a dict, its keys whole numbers and texts -/
  | dct (kvs : List (L2.Key × U))
  /-- a dict, its keys nested tuples of whole numbers, its values whole numbers -/
  | dnk (kvs : List (PySem.NestedKey × Int))
abbrev Sto := Addr → Option Ob
def Sto.put (S : Sto) (a : Addr) (o : Ob) : Sto := fun b => if b = a then some o else S b
def Sto.del (S : Sto) (a : Addr) : Sto := fun b => if b = a then none else S b
def Sto.nil : Sto := fun _ => none
theorem Sto.put_same {S : Sto} {a : Addr} {o : Ob} : S.put a o a = some o := by simp [Sto.put]
theorem Sto.put_ne {S : Sto} {a b : Addr} {o : Ob} (h : b ≠ a) : S.put a o b = S b := by simp [Sto.put, h]
theorem Sto.del_same {S : Sto} {a : Addr} : S.del a a = none := by simp [Sto.del]
theorem Sto.del_ne {S : Sto} {a b : Addr} (h : b ≠ a) : S.del a b = S b := by simp [Sto.del, h]
theorem Sto.put_put {S : Sto} {a : Addr} {o p : Ob} : (S.put a o).put a p = S.put a p := by
  funext b; simp only [Sto.put]; split <;> rfl
theorem Sto.del_put {S : Sto} {a : Addr} {o : Ob} (h : S a = none) : (S.put a o).del a = S := by
  funext b; simp only [Sto.put, Sto.del]; split
  · next e => rw [e, h]
  · rfl
theorem Sto.put_comm {S : Sto} {a b : Addr} {o p : Ob} (h : a ≠ b) : (S.put a o).put b p = (S.put b p).put a o := by
  funext c; simp only [Sto.put]
  by_cases e : c = a
  · by_cases f : c = b
    · exact absurd (e.symm.trans f) h
    · subst e; simp [h]
  · simp [e]
theorem Sto.put_self {S : Sto} {a : Addr} {o : Ob} (h : S a = some o) : S.put a o = S := by
  funext b; simp only [Sto.put]; split
  · next e => rw [e, h]
  · rfl
section
variable (K : PySem.W.Frag)
abbrev noH : Hp := fun _ => none
theorem sqL_any {a : Addr} {xs : List V} {H : Hp} (h : SqL K noH a xs) : SqL K H a xs := by
  rcases h with (h | ⟨o, h⟩) | h
  · cases h
  · cases h
  · exact .inr h
theorem sqT_any {a : Addr} {xs : List V} {H : Hp} (h : SqT K noH a xs) : SqT K H a xs := by
  rcases h with (h | ⟨o, h⟩) | h
  · cases h
  · cases h
  · exact .inr h
/-- a tuple that stands still -/
def LsAt (F : Addr → Prop) (H : Hp) (a : Addr) (vs : List V) : Prop := (F a ∧ ∃ o, H a = some (.frz o (.lst vs))) ∨ SqL K noH a vs
def TupAt (F : Addr → Prop) (H : Hp) (a : Addr) (vs : List V) : Prop := (F a ∧ H a = some (.tup vs)) ∨ SqT K noH a vs
mutual
inductive VRel (F : Addr → Prop) (H : Hp) : V → U → Prop
  | non : VRel F H .non .non
  | bl (b : Bool) : VRel F H (.bl b) (.bl b)
  | int (i : Int) : VRel F H (.int i) (.int i)
  | str (s : List Nat) : VRel F H (.str ⟨s.toArray⟩) (.str s)
  | tup {a : Addr} {vs : List V} {xs : List U} : TupAt K F H a vs → VRels F H vs xs → VRel F H (.ref a) (.tup xs)
  | lst {a : Addr} {vs : List V} {xs : List U} : F a → H a = some (.lst vs) → VRels F H vs xs → VRel F H (.ref a) (.lst xs)
  | ls {a : Addr} {vs : List V} {xs : List U} : LsAt K F H a vs → VRels F H vs xs → VRel F H (.ref a) (.ls xs)
  | ref (a : Addr) : VRel F H (.ref a) (.ref a)
  | dct {a : Addr} {ks : List L2.Key} {vs : List V} {xs : List U} : F a → (∃ o, H a = some (.frz o (.dK (ks.zip vs)))) → ks.length = vs.length → VRels F H vs xs → VRel F H (.ref a) (.dct ks xs)
inductive VRels (F : Addr → Prop) (H : Hp) : List V → List U → Prop
  | nil : VRels F H [] []
  | cons {v : V} {vs : List V} {u : U} {us : List U} : VRel F H v u → VRels F H vs us → VRels F H (v :: vs) (u :: us)
end
end
section
variable {K : PySem.W.Frag} {F F' F'' : Addr → Prop} {H H' H'' : Hp} {v : V} {vs ws : List V} {u : U} {us xs : List U} {a : Addr}
structure FExt (F : Addr → Prop) (H : Hp) (F' : Addr → Prop) (H' : Hp) : Prop where
  sub : ∀ a, F a → F' a
  same : ∀ a, F a → H' a = H a
theorem FExt.refl : FExt F H F H := ⟨fun _ h => h, fun _ _ => rfl⟩
theorem FExt.trans (x : FExt F H F' H') (y : FExt F' H' F'' H'') : FExt F H F'' H'' := ⟨fun a h => y.sub a (x.sub a h), fun a h => (y.same a (x.sub a h)).trans (x.same a h)⟩
theorem LsAt.ext (e : FExt F H F' H') (h : LsAt K F H a vs) : LsAt K F' H' a vs := by
  rcases h with ⟨h1, o, h2⟩ | h
  · exact .inl ⟨e.sub _ h1, o, (e.same _ h1).trans h2⟩
  · exact .inr h
theorem LsAt.sq (h : LsAt K F H a vs) : SqL K H a vs := by
  rcases h with ⟨_, h2⟩ | h
  · exact .inl (.inr h2)
  · exact sqL_any K h
theorem TupAt.ext (e : FExt F H F' H') (h : TupAt K F H a vs) : TupAt K F' H' a vs := by
  rcases h with ⟨h1, h2⟩ | h
  · exact .inl ⟨e.sub _ h1, (e.same _ h1).trans h2⟩
  · exact .inr h
theorem TupAt.sq (h : TupAt K F H a vs) : SqT K H a vs := by
  rcases h with ⟨_, h2⟩ | h
  · exact SqT.of h2
  · exact sqT_any K h
mutual
theorem VRel.ext (e : FExt F H F' H') : ∀ {v : V} {u : U}, VRel K F H v u → VRel K F' H' v u
  | _, _, .non => .non
  | _, _, .bl b => .bl b
  | _, _, .int i => .int i
  | _, _, .str s => .str s
  | _, _, .tup h r => .tup (h.ext e) (VRels.ext e r)
  | _, _, .lst h1 h2 r => .lst (e.sub _ h1) ((e.same _ h1).trans h2) (VRels.ext e r)
  | _, _, .ls h r => .ls (h.ext e) (VRels.ext e r)
  | _, _, .ref a => .ref a
  | _, _, .dct h1 h2 h3 r => .dct (e.sub _ h1) (by obtain ⟨o, h2⟩ := h2; exact ⟨o, (e.same _ h1).trans h2⟩) h3 (VRels.ext e r)
theorem VRels.ext (e : FExt F H F' H') : ∀ {vs : List V} {us : List U}, VRels K F H vs us → VRels K F' H' vs us
  | _, _, .nil => .nil
  | _, _, .cons h r => .cons (VRel.ext e h) (VRels.ext e r)
end
theorem VRels.length : ∀ {vs : List V} {us : List U}, VRels K F H vs us → vs.length = us.length
  | _, _, .nil => rfl
  | _, _, .cons _ r => by simp [VRels.length r]
theorem VRels.append : ∀ {vs ws : List V} {us xs : List U}, VRels K F H vs us → VRels K F H ws xs → VRels K F H (vs ++ ws) (us ++ xs)
  | _, _, _, _, .nil, s => s
  | _, _, _, _, .cons h r, s => .cons h (VRels.append r s)
theorem VRels.take : ∀ {vs : List V} {us : List U} (n : Nat), VRels K F H vs us → VRels K F H (vs.take n) (us.take n)
  | _, _, 0, _ => by simpa using VRels.nil
  | _, _, n + 1, .nil => by simpa using VRels.nil
  | _, _, n + 1, .cons h r => .cons h (VRels.take n r)
theorem VRels.drop : ∀ {vs : List V} {us : List U} (n : Nat), VRels K F H vs us → VRels K F H (vs.drop n) (us.drop n)
  | _, _, 0, r => r
  | _, _, n + 1, .nil => by simpa using VRels.nil
  | _, _, n + 1, .cons h r => VRels.drop n r
theorem VRels.get : ∀ {vs : List V} {us : List U} {i : Nat} {u : U}, VRels K F H vs us → us[i]? = some u → ∃ v, vs[i]? = some v ∧ VRel K F H v u
  | _, _, _, _, .nil, e => by simp at e
  | _, _, 0, _, .cons h _, e => by simp at e; subst e; exact ⟨_, rfl, h⟩
  | _, _, i + 1, _, .cons _ r, e => by
    obtain ⟨v, h1, h2⟩ := VRels.get (i := i) r (by simpa using e)
    exact ⟨v, by simpa using h1, h2⟩
theorem VRels.get' : ∀ {vs : List V} {us : List U} {i : Nat} {v : V}, VRels K F H vs us → vs[i]? = some v → ∃ u, us[i]? = some u ∧ VRel K F H v u
  | _, _, _, _, .nil, e => by simp at e
  | _, _, 0, _, .cons h _, e => by simp at e; subst e; exact ⟨_, rfl, h⟩
  | _, _, i + 1, _, .cons _ r, e => by
    obtain ⟨v, h1, h2⟩ := VRels.get' (i := i) r (by simpa using e)
    exact ⟨v, by simpa using h1, h2⟩
theorem VRels.set : ∀ {vs : List V} {us : List U} (i : Nat), VRel K F H v u → VRels K F H vs us → VRels K F H (vs.set i v) (us.set i u)
  | _, _, _, _, .nil => .nil
  | _, _, 0, h, .cons _ r => .cons h r
  | _, _, i + 1, h, .cons h' r => .cons h' (VRels.set i h r)
theorem VRels.dropLast {vs : List V} {us : List U} (r : VRels K F H vs us) : VRels K F H vs.dropLast us.dropLast := by
  rw [List.dropLast_eq_take, List.dropLast_eq_take, r.length]
  exact r.take _
theorem VRels.eraseIdx : ∀ {vs : List V} {us : List U} (i : Nat), VRels K F H vs us → VRels K F H (vs.eraseIdx i) (us.eraseIdx i)
  | _, _, _, .nil => .nil
  | _, _, 0, .cons _ r => r
  | _, _, i + 1, .cons h r => .cons h (VRels.eraseIdx i r)
theorem VRels.reverse {vs : List V} {us : List U} (r : VRels K F H vs us) : VRels K F H vs.reverse us.reverse := by
  induction vs generalizing us with
  | nil => cases r; exact .nil
  | cons v vs ih =>
    cases r with
    | cons h r =>
      rw [List.reverse_cons, List.reverse_cons]
      exact (ih r).append (.cons h .nil)
theorem VRels.rep {vs : List V} {us : List U} (r : VRels K F H vs us) : ∀ k : Nat, VRels K F H (List.replicate k vs).flatten (List.replicate k us).flatten
  | 0 => .nil
  | k + 1 => by
    rw [List.replicate_succ, List.replicate_succ, List.flatten_cons, List.flatten_cons]
    exact r.append (VRels.rep r k)
theorem VRels.ints {vs : List V} : ∀ {ns : List Int}, VRels K F H vs (ns.map U.int) → vs = ns.map V.int := by
  induction vs with
  | nil => intro ns r; cases ns with
    | nil => rfl
    | cons n ns => cases r
  | cons v vs ih => intro ns r; cases ns with
    | nil => cases r
    | cons n ns => cases r with
      | cons h r => cases h; rw [ih r]; rfl
theorem VRels.of_ints : ∀ {ns : List Int}, VRels K F H (ns.map V.int) (ns.map U.int)
  | [] => .nil
  | n :: ns => .cons (.int n) VRels.of_ints
theorem VRels.bls {vs : List V} : ∀ {ns : List Bool}, VRels K F H vs (ns.map U.bl) → vs = ns.map V.bl := by
  induction vs with
  | nil => intro ns r; cases ns with
    | nil => rfl
    | cons n ns => cases r
  | cons v vs ih => intro ns r; cases ns with
    | nil => cases r
    | cons n ns => cases r with
      | cons h r => cases h; rw [ih r]; rfl
theorem VRels.strs {vs : List V} : ∀ {ns : List (List Nat)}, VRels K F H vs (ns.map U.str) → vs = (ns.map fun s => (⟨s.toArray⟩ : Str)).map V.str := by
  induction vs with
  | nil => intro ns r; cases ns with
    | nil => rfl
    | cons n ns => cases r
  | cons v vs ih => intro ns r; cases ns with
    | nil => cases r
    | cons n ns => cases r with
      | cons h r => cases h; rw [ih r]; rfl
/-- fields of an instance -/
inductive FRel (K : PySem.W.Frag) (F : Addr → Prop) (H : Hp) : List (Str × V) → List (Str × U) → Prop
  | nil : FRel K F H [] []
  | cons {f : Str} {v : V} {u : U} {vs : List (Str × V)} {us : List (Str × U)} : VRel K F H v u → FRel K F H vs us → FRel K F H ((f, v) :: vs) ((f, u) :: us)
theorem FRel.ext (e : FExt F H F' H') {vs : List (Str × V)} {us : List (Str × U)} (r : FRel K F H vs us) : FRel K F' H' vs us := by
  induction r with
  | nil => exact .nil
  | cons h _ ih => exact .cons (h.ext e) ih
theorem FRel.length {vs : List (Str × V)} {us : List (Str × U)} (r : FRel K F H vs us) : vs.length = us.length := by
  induction r with
  | nil => rfl
  | cons _ _ ih => simp [ih]
def putU (f : Str) (v : U) : List (Str × U) → List (Str × U)
  | [] => [(f, v)]
  | (g, w) :: r => if g = f then (g, v) :: r else (g, w) :: putU f v r
theorem FRel.lookup {f : Str} {vs : List (Str × V)} {us : List (Str × U)} (r : FRel K F H vs us) : (∀ u, us.lookup f = some u → ∃ v, vs.lookup f = some v ∧ VRel K F H v u) ∧ (us.lookup f = none → vs.lookup f = none) := by
  induction r with
  | nil => exact ⟨fun u h => by simp at h, fun _ => rfl⟩
  | @cons g v u vs us h r ih =>
    rw [List.lookup_cons, List.lookup_cons]
    cases e : f == g with
    | true => exact ⟨fun w hw => by cases hw; exact ⟨v, rfl, h⟩, fun h => by cases h⟩
    | false => exact ih
end
/-- the entries of a dict -/
inductive KRel (K : PySem.W.Frag) (F : Addr → Prop) (H : Hp) : List (L2.Key × V) → List (L2.Key × U) → Prop
  | nil : KRel K F H [] []
  | cons {f : L2.Key} {v : V} {u : U} {vs : List (L2.Key × V)} {us : List (L2.Key × U)} : VRel K F H v u → KRel K F H vs us → KRel K F H ((f, v) :: vs) ((f, u) :: us)
theorem KRel.ext {K : PySem.W.Frag} {F F' : Addr → Prop} {H H' : Hp} (e : FExt F H F' H') {vs : List (L2.Key × V)} {us : List (L2.Key × U)} (r : KRel K F H vs us) : KRel K F' H' vs us := by
  induction r with
  | nil => exact .nil
  | cons h _ ih => exact .cons (h.ext e) ih
mutual
/-- a value as a key -/
def nkU : U → Option PySem.NestedKey
  | .bl b => some (.num (if b = true then 1 else 0))
  | .int i => some (.num i)
  | .tup xs => (nkUs xs).map .tup
  | _ => none
def nkUs : List U → Option (List PySem.NestedKey)
  | [] => some []
  | x :: xs => match nkU x, nkUs xs with
    | some k, some ks => some (k :: ks)
    | _, _ => none
end
/-- the rows of a dict whose keys are nested tuples -/
inductive NRel (K : PySem.W.Frag) (F : Addr → Prop) (H : Hp) : List Row → List (PySem.NestedKey × Int) → Prop
  | nil : NRel K F H [] []
  | cons {k : PySem.NestedKey} {b : Addr} {i : Int} {t : Tok} {u : U} {xs : List Row} {kvs : List (PySem.NestedKey × Int)} : VRel K F H (.ref b) u → nkU u = some k → k.depth ≤ 8 → NRel K F H xs kvs → NRel K F H ((k, b, .int i t) :: xs) ((k, i) :: kvs)
theorem NRel.ext {K : PySem.W.Frag} {F F' : Addr → Prop} {H H' : Hp} (e : FExt F H F' H') {xs : List Row} {kvs : List (PySem.NestedKey × Int)} (r : NRel K F H xs kvs) : NRel K F' H' xs kvs := by
  induction r with
  | nil => exact .nil
  | cons h hk hd _ ih => exact .cons (h.ext e) hk hd ih
structure Ext (F : Addr → Prop) (H : Hp) (S : Sto) (F' : Addr → Prop) (H' : Hp) (S' : Sto) : Prop where
  sub : ∀ a, F a → F' a
  keep : ∀ a o, H a = some o → S a = none → H' a = some o ∧ S' a = none ∧ (F' a → F a)
/-- where the def (or the try's suite) began; the classes -/
structure Anc where
  cls : List Addr
  F : Addr → Prop
  H : Hp
  S : Sto
/-- what stands at a for a mutable thing -/
def ObRel (K : PySem.W.Frag) (cls : Anc) (F : Addr → Prop) (H : Hp) (a : Addr) : Ob → Prop
  | .lst xs => ∃ vs, H a = some (.lst vs) ∧ VRels K F H vs xs
  | .ins c fs => ∃ C dx vfs, cls.cls[c]? = some C ∧ H a = some (.ins C dx vfs) ∧ FRel K F H vfs fs
  | .dct kvs => ∃ vkvs, H a = some (.dK vkvs) ∧ KRel K F H vkvs kvs
  | .dnk kvs => ∃ P w xs, H a = some (DnO P w a xs) ∧ NRel K F H xs kvs
theorem ObRel.there {K : PySem.W.Frag} {cls : Anc} {F : Addr → Prop} {H : Hp} {a : Addr} {o : Ob} (h : ObRel K cls F H a o) : ∃ x, H a = some x := by
  cases o with
  | lst xs => obtain ⟨vs, h, _⟩ := h; exact ⟨_, h⟩
  | ins c fs => obtain ⟨C, dx, vfs, _, h, _⟩ := h; exact ⟨_, h⟩
  | dct kvs => obtain ⟨vs, h, _⟩ := h; exact ⟨_, h⟩
  | dnk kvs => obtain ⟨P, w, vs, h, _⟩ := h; exact ⟨_, h⟩
theorem ObRel.ext {K : PySem.W.Frag} {cls : Anc} {F F' : Addr → Prop} {H H' : Hp} {a : Addr} {o : Ob} (e : FExt F H F' H') (ha : H' a = H a) (h : ObRel K cls F H a o) : ObRel K cls F' H' a o := by
  cases o with
  | lst xs => obtain ⟨vs, h, r⟩ := h; exact ⟨vs, ha.trans h, r.ext e⟩
  | ins c fs => obtain ⟨C, dx, vfs, hc, h, r⟩ := h; exact ⟨C, dx, vfs, hc, ha.trans h, r.ext e⟩
  | dct kvs => obtain ⟨vs, h, r⟩ := h; exact ⟨vs, ha.trans h, r.ext e⟩
  | dnk kvs => obtain ⟨P, w, vs, h, r⟩ := h; exact ⟨P, w, vs, ha.trans h, r.ext e⟩
structure SR (K : PySem.W.Frag) (cls : Anc) (F : Addr → Prop) (H : Hp) (S : Sto) : Prop where
  sep : ∀ a, F a → S a = none
  frz : ∀ a, F a → ∃ o, H a = some o
  sto : ∀ a o, S a = some o → ObRel K cls F H a o
  anc : Ext cls.F cls.H cls.S F H S
section
variable {K : PySem.W.Frag} {cls : Anc} {F F' F'' : Addr → Prop} {H H' H'' : Hp} {S S' S'' : Sto} {v : V} {u : U} {us : List U} {vs : List V} {a p : Addr} {o : HO} {ob ob' : Ob}
theorem Ext.refl : Ext F H S F H S := ⟨fun _ h => h, fun _ _ h h' => ⟨h, h', id⟩⟩
theorem Ext.trans (x : Ext F H S F' H' S') (y : Ext F' H' S' F'' H'' S'') : Ext F H S F'' H'' S'' :=
  ⟨fun a h => y.sub a (x.sub a h), fun a o h h' => by
    obtain ⟨h1, h2, h3⟩ := x.keep a o h h'
    obtain ⟨h4, h5, h6⟩ := y.keep a o h1 h2
    exact ⟨h4, h5, fun z => h3 (h6 z)⟩⟩
theorem Ext.f (x : Ext F H S F' H' S') (r : SR K cls F H S) : FExt F H F' H' :=
  ⟨x.sub, fun a h => by
    obtain ⟨o, e⟩ := r.frz a h
    rw [e]
    exact (x.keep a o e (r.sep a h)).1⟩
theorem SR.notF (r : SR K cls F H S) (hp : H p = none) : ¬ F p := fun z => by
  obtain ⟨o, e⟩ := r.frz p z
  rw [hp] at e; cases e
theorem SR.notS (r : SR K cls F H S) (hp : H p = none) : S p = none := by
  cases e : S p with
  | none => rfl
  | some o =>
    obtain ⟨x, h⟩ := (r.sto p o e).there
    rw [hp] at h; cases h
/-- a new frozen thing -/
theorem SR.newF (r : SR K cls F H S) (hp : H p = none) : SR K cls (fun b => F b ∨ b = p) (upd H p o) S ∧ Ext F H S (fun b => F b ∨ b = p) (upd H p o) S ∧ FExt F H (fun b => F b ∨ b = p) (upd H p o) := by
  have nF := r.notF hp
  have nS := r.notS hp
  have fe : FExt F H (fun b => F b ∨ b = p) (upd H p o) := ⟨fun _ h => .inl h, fun b h => upd_ne (fun z => nF (by rw [← z]; exact h))⟩
  have ex : Ext F H S (fun b => F b ∨ b = p) (upd H p o) S := ⟨fun _ h => .inl h, fun b x h h' => by
    have hb : b ≠ p := fun z => by rw [z, hp] at h; cases h
    exact ⟨(upd_ne hb).trans h, h', fun z => z.resolve_right hb⟩⟩
  refine ⟨⟨fun b h => ?_, fun b h => ?_, fun b x h => ?_, r.anc.trans ex⟩, ex, fe⟩
  · rcases h with h | rfl
    · exact r.sep b h
    · exact nS
  · rcases h with h | rfl
    · obtain ⟨x, e⟩ := r.frz b h
      exact ⟨x, (upd_ne (fun z => nF (by rw [← z]; exact h))).trans e⟩
    · exact ⟨_, upd_same⟩
  · exact (r.sto b x h).ext fe (upd_ne (fun z => by rw [z, nS] at h; cases h))
/-- a new mutable thing -/
theorem SR.newM (r : SR K cls F H S) (hp : H p = none) (hob : ObRel K cls F (upd H p o) p ob) : SR K cls F (upd H p o) (S.put p ob) ∧ Ext F H S F (upd H p o) (S.put p ob) ∧ FExt F H F (upd H p o) := by
  have nF := r.notF hp
  have nS := r.notS hp
  have fe : FExt F H F (upd H p o) := ⟨fun _ h => h, fun b h => upd_ne (fun z => nF (by rw [← z]; exact h))⟩
  have ex : Ext F H S F (upd H p o) (S.put p ob) := ⟨fun _ h => h, fun b x h h' => by
    have hb : b ≠ p := fun z => by rw [z, hp] at h; cases h
    exact ⟨(upd_ne hb).trans h, (Sto.put_ne hb).trans h', id⟩⟩
  refine ⟨⟨fun b h => ?_, fun b h => ?_, fun b x h => ?_, r.anc.trans ex⟩, ex, fe⟩
  · exact (Sto.put_ne (fun z => nF (by rw [← z]; exact h))).trans (r.sep b h)
  · obtain ⟨x, e⟩ := r.frz b h
    exact ⟨x, (upd_ne (fun z => nF (by rw [← z]; exact h))).trans e⟩
  · by_cases hb : b = p
    · subst hb
      rw [Sto.put_same] at h; cases h
      exact hob
    · rw [Sto.put_ne hb] at h
      exact (r.sto b x h).ext fe (upd_ne hb)
/-- a mutable thing is written -/
theorem SR.write (r : SR K cls F H S) (ha : S a = some ob') (hob : ObRel K cls F (upd H a o) a ob) : SR K cls F (upd H a o) (S.put a ob) ∧ Ext F H S F (upd H a o) (S.put a ob) ∧ FExt F H F (upd H a o) := by
  have nF : ¬ F a := fun z => by rw [r.sep a z] at ha; cases ha
  have fe : FExt F H F (upd H a o) := ⟨fun _ h => h, fun b h => upd_ne (fun z => nF (by rw [← z]; exact h))⟩
  have ex : Ext F H S F (upd H a o) (S.put a ob) := ⟨fun _ h => h, fun b x h h' => by
    have hb : b ≠ a := fun z => by rw [z, ha] at h'; cases h'
    exact ⟨(upd_ne hb).trans h, (Sto.put_ne hb).trans h', id⟩⟩
  refine ⟨⟨fun b h => ?_, fun b h => ?_, fun b x h => ?_, r.anc.trans ex⟩, ex, fe⟩
  · exact (Sto.put_ne (fun z => nF (by rw [← z]; exact h))).trans (r.sep b h)
  · obtain ⟨x, e⟩ := r.frz b h
    exact ⟨x, (upd_ne (fun z => nF (by rw [← z]; exact h))).trans e⟩
  · by_cases hb : b = a
    · subst hb
      rw [Sto.put_same] at h; cases h
      exact hob
    · rw [Sto.put_ne hb] at h
      exact (r.sto b x h).ext fe (upd_ne hb)
theorem SR.fe_write (r : SR K cls F H S) (ha : S a = some ob') : FExt F H F (upd H a o) := by
  have nF : ¬ F a := fun z => by rw [r.sep a z] at ha; cases ha
  exact ⟨fun _ h => h, fun b h => upd_ne (fun z => nF (by rw [← z]; exact h))⟩
theorem SR.fe_new (r : SR K cls F H S) (hp : H p = none) : FExt F H F (upd H p o) := by
  have nF := r.notF hp
  exact ⟨fun _ h => h, fun b h => upd_ne (fun z => nF (by rw [← z]; exact h))⟩
/-- a mutable list freezes -/
theorem SR.freeze {xs : List U} (r : SR K cls F H S) (ha : S a = some (.lst xs)) : SR K cls (fun b => F b ∨ b = a) H (S.del a) ∧ Ext F H S (fun b => F b ∨ b = a) H (S.del a) ∧ VRel K (fun b => F b ∨ b = a) H (.ref a) (.lst xs) := by
  have fe : FExt F H (fun b => F b ∨ b = a) H := ⟨fun _ h => .inl h, fun _ _ => rfl⟩
  obtain ⟨vs, hv, rv⟩ := r.sto a _ ha
  have ex : Ext F H S (fun b => F b ∨ b = a) H (S.del a) := ⟨fun _ h => .inl h, fun b x h h' => by
    have hb : b ≠ a := fun z => by rw [z, ha] at h'; cases h'
    exact ⟨h, (Sto.del_ne hb).trans h', fun z => z.resolve_right hb⟩⟩
  refine ⟨⟨fun b h => ?_, fun b h => ?_, fun b x h => ?_, r.anc.trans ex⟩, ex, .lst (.inr rfl) hv (rv.ext fe)⟩
  · by_cases hb : b = a
    · subst hb; exact Sto.del_same
    · exact (Sto.del_ne hb).trans (r.sep b (h.resolve_right hb))
  · rcases h with h | rfl
    · exact r.frz b h
    · exact ⟨_, hv⟩
  · by_cases hb : b = a
    · subst hb; rw [Sto.del_same] at h; cases h
    · rw [Sto.del_ne hb] at h
      exact (r.sto b x h).ext fe rfl
/-- begin anew here -/
theorem SR.re (r : SR K cls F H S) : SR K ⟨cls.cls, F, H, S⟩ F H S := ⟨r.sep, r.frz, fun a o h => by
  have := r.sto a o h
  cases o <;> exact this, .refl⟩
theorem SR.back (r : SR K cls F H S) (r' : SR K ⟨cls.cls, F, H, S⟩ F' H' S') : SR K cls F' H' S' := ⟨r'.sep, r'.frz, fun a o h => by
  have := r'.sto a o h
  cases o <;> exact this, r.anc.trans r'.anc⟩
/-- the names' values -/
abbrev Env := List (Option U)
structure ER (K : PySem.W.Frag) (F : Addr → Prop) (H : Hp) (σ : St) (ρ : Env) : Prop where
  len : σ.length = ρ.length
  at_ : ∀ (i : Nat) (u : U), ρ[i]? = some (some u) → ∃ v, σ[i]? = some (some v) ∧ VRel K F H v u
variable {σ : St} {ρ : Env}
theorem ER.ext (e : FExt F H F' H') (r : ER K F H σ ρ) : ER K F' H' σ ρ := ⟨r.len, fun i u h => let ⟨v, a, b⟩ := r.at_ i u h; ⟨v, a, b.ext e⟩⟩
theorem ER.set (r : ER K F H σ ρ) (h : VRel K F H v u) (i : Nat) : ER K F H (σ.set i (some v)) (ρ.set i (some u)) := by
  refine ⟨by simp [r.len], fun j w e => ?_⟩
  by_cases hj : i = j
  · subst hj
    have hi : i < ρ.length := by
      have := (List.getElem?_eq_some_iff.mp e).1
      simpa using this
    rw [List.getElem?_set_self hi] at e
    cases e
    exact ⟨v, List.getElem?_set_self (by rw [r.len]; exact hi), h⟩
  · rw [List.getElem?_set_ne hj] at e ⊢
    exact r.at_ j w e
def wipeU (ρ : Env) : List Nat → Env
  | [] => ρ
  | v :: vs => (wipeU ρ vs).set v none
theorem ER.setNone (r : ER K F H σ ρ) (i : Nat) : ER K F H (σ.set i none) (ρ.set i none) := by
  refine ⟨by simp [r.len], fun j w e => ?_⟩
  by_cases hj : i = j
  · subst hj
    by_cases hi : i < ρ.length
    · rw [List.getElem?_set_self hi] at e; cases e
    · rw [List.getElem?_eq_none (by simpa using hi)] at e; cases e
  · rw [List.getElem?_set_ne hj] at e ⊢
    exact r.at_ j w e
theorem ER.wipe (r : ER K F H σ ρ) : ∀ l : List Nat, ER K F H (L2.wipe σ l) (wipeU ρ l)
  | [] => r
  | i :: l => (r.wipe l).setNone i
theorem VRels.toER {n : Nat} (r : VRels K F H vs us) : ER K F H (vs.map some ++ List.replicate n none) (us.map some ++ List.replicate n none) := by
  refine ⟨by simp [r.length], fun i u e => ?_⟩
  by_cases hi : i < us.length
  · rw [List.getElem?_append_left (by simpa using hi), List.getElem?_map] at e
    cases q : us[i]? with
    | none => rw [q] at e; cases e
    | some u' =>
      rw [q] at e; cases e
      obtain ⟨v, h1, h2⟩ := r.get q
      refine ⟨v, ?_, h2⟩
      rw [List.getElem?_append_left (by simpa [r.length] using hi), List.getElem?_map, h1]; rfl
  · rw [List.getElem?_append_right (by simpa using hi), List.getElem?_replicate] at e
    split at e <;> cases e
end
end Mm
/-! MmB: the small language and its weakest preconditions -/
namespace Mm
open PySem L2 PyProof.Rows
inductive Bop where | add | sub | mul | fdiv | mod | pow | shl | shr | band
  deriving DecidableEq
inductive Cop where | eq | ne | lt | le | gt | ge | isin | notin | isN | notN
  deriving DecidableEq
inductive Blt where | len | int | max2 | min2 | all | any | list (m : Bool) | tuple | abs | sorti (m : Bool) | sortd (m : Bool)
  deriving DecidableEq
inductive Mth where | append | pop | extend | join | insert | remove
  deriving DecidableEq
inductive Tg where | one (i : Nat) | tup (is : List Nat)
mutual
inductive E where
  | lit (u : U)
  | var (i : Nat)
  | glb (i : Nat)
  | bin (o : Bop) (m : Bool) (a b : E)
  | neg (a : E)
  | cmp (o : Cop) (a b : E)
  | chain (o p : Cop) (a b c : E)
  | ands (es : Es)
  | ors (es : Es)
  | nt (a : E)
  | ife (t : T) (a b : E)
  | tup (es : Es)
  | lst (m : Bool) (es : Es)
  | idx (a i : E)
  | slc (m : Bool) (a : E) (lo hi : O)
  | lc (m : Bool) (own : List (Str × Nat)) (g : Tg) (it : It) (c : T) (e : E)
  | call (f : Nat) (es : Es)
  | blt (b : Blt) (es : Es)
  | isi (a : E) (ty : String)
  | meth (m : Mth) (o : E) (es : Es)
  | fld (o : E) (f : Str)
  | omt (c m : Nat) (o : E) (es : Es)
  | mk (c : Nat) (es : Es)
  | fstr (es : Es)
  | fmt (a : E)
  | frz (a : E)
  | rev (m : Bool) (a : E)
  | revT (a : E)
  | repr (a : E)
  | dct1 (a b : E)
  /-- {}, its keys whole numbers and texts; its keys nested tuples -/
  | dct0
  | dnk0
  /-- o.get(k, d) -/
  | dget (o k d : E)
  /-- sorted(set(a)), sorted({e for ..}) -/
  | srts (m : Bool) (a : E)
  | srtsc (m : Bool) (own : List (Str × Nat)) (g : Tg) (it : It) (c : T) (e : E)
  /-- [e for g in it if c for g1 in it1 if c1] -/
  | lc2 (m : Bool) (own : List (Str × Nat)) (vs : List Nat) (g : Tg) (it : It) (c : T) (g1 : Tg) (it1 : It) (c1 : T) (e : E)
  /-- the ghost: a thing is seen in another way -/
  | gst (a : E)
inductive Es where
  | nil
  | cons (e : E) (es : Es)
inductive T where
  | val (e : E)
  | tru (e : E)
  | cmp (o : Cop) (a b : E)
  | chain (o p : Cop) (a b c : E)
  | ands (ts : Ts)
  | ors (ts : Ts)
  | nt (t : T)
  | yes
inductive Ts where
  | one (t : T)
  | cons (t : T) (ts : Ts)
inductive It where
  | seq (e : E)
  | rng1 (a : E)
  | rng2 (a b : E)
  | rvs (a : E)
  | rngD (a b : E)
  | items (e : E)
  | enum (e : E)
inductive O where
  | no
  | so (e : E)
end
mutual
/-- what an except suite reckons -/
inductive HE where
  | lit (u : U)
  | fx (f : Str)
  | is (t : Str)
  | nt (a : HE)
  | and (a b : HE)
  | var (j : Nat)
  | lst (es : HEs)
  | add (a b : HE)
  | repr (a : HE)
inductive HEs where
  | nil
  | cons (e : HE) (es : HEs)
end
/-- a statement of an except suite -/
inductive Hs where
  | ret (e : HE)
  | set (j : Nat) (e : HE)
  | pas
/-- an except clause: its class, its name's slot, its suite -/
structure Cl where
  c : Nat
  i : Option Nat
  h : List Hs
mutual
inductive Cm where
  | set (i : Nat) (e : E)
  | setT (is : List Nat) (e : E)
  | setIx (o i e : E)
  | setF (o : E) (f : Str) (e : E)
  | aug (i : Nat) (o : Bop) (e : E)
  | ex (e : E)
  | ret (e : E)
  | retN
  | ite (t : T) (a b : Cms)
  | whl (t : T) (b : Cms)
  | for (g : Tg) (it : It) (b : Cms)
  | brk
  | cnt
  | pas
  | mat (e : E) (cs : Cs)
  | tryN (b : Cms)
  | never
  | rai (c : Nat) (es : Es)
  | rai0 (c : Nat)
  | tryM (b : Cms) (hs : List Cl)
inductive Cms where
  | nil
  | cons (s : Cm) (r : Cms)
inductive Cs where
  | nil
  | dflt (b : Cms)
  | cons (ps : List (List Nat)) (b : Cms) (r : Cs)
end
/-! values -/
mutual
def U.py : U → PyData
  | .non => .none
  | .bl b => .bool b
  | .int i => .int i
  | .str s => .str ⟨s.toArray⟩
  | .tup xs => .tuple (pys xs)
  | .lst xs => .list (pys xs)
  | .ls xs => .list (pys xs)
  | .ref _ => .none
  | .dct _ _ => .none
def pys : List U → List PyData
  | [] => []
  | x :: xs => x.py :: pys xs
end
mutual
/-- no mutable thing within, every text of true code points -/
def U.data : U → Bool
  | .non | .bl _ | .int _ => true
  | .str s => s.all fun c => decide (c < 1114112)
  | .tup xs => datas xs
  | .lst xs => datas xs
  | .ls xs => datas xs
  | .ref _ => false
  | .dct _ _ => false
def datas : List U → Bool
  | [] => true
  | x :: xs => x.data && datas xs
end
mutual
def U.dep : U → Nat
  | .tup xs => deps xs + 1
  | .lst xs => deps xs + 1
  | .ls xs => deps xs + 1
  | _ => 0
def deps : List U → Nat
  | [] => 0
  | x :: xs => max x.dep (deps xs)
end
mutual
/-- == as Python has it -/
def ueq : U → U → Bool
  | .non, .non => true
  | .bl a, .bl b => a == b
  | .bl a, .int j => (if a then 1 else 0) == j
  | .int i, .bl b => i == (if b then 1 else 0)
  | .int i, .int j => i == j
  | .str x, .str y => x == y
  | .tup xs, .tup ys => ueqs xs ys
  | .lst xs, .lst ys => ueqs xs ys
  | .lst xs, .ls ys => ueqs xs ys
  | .ls xs, .lst ys => ueqs xs ys
  | .ls xs, .ls ys => ueqs xs ys
  | _, _ => false
def ueqs : List U → List U → Bool
  | [], [] => true
  | x :: xs, y :: ys => ueq x y && ueqs xs ys
  | _, _ => false
end
def U.flat : U → Bool
  | .non | .bl _ | .int _ | .str _ => true
  | _ => false
def U.ty : U → Option String
  | .non => some "NoneType"
  | .bl _ => some "bool"
  | .int _ => some "int"
  | .str _ => some "str"
  | .tup _ => some "tuple"
  | .lst _ => some "list"
  | .ls _ => none
  | .ref _ => none
  | .dct _ _ => none
/-- a value's type, a mutable thing's too -/
def tyOf (S : Sto) : U → Option String
  | .ref a => match S a with
    | some (.lst _) => some "list"
    | some (.dct _) => some "dict"
    | _ => none
  | .ls _ => some "list"
  | u => u.ty
/-- may be told apart as data -/
def eqable (u : U) : Prop := u.data = true ∧ u.dep ≤ 128
/-- the items of a list -/
def lstOf (S : Sto) : U → Option (List U)
  | .lst xs => some xs
  | .ref a => match S a with
    | some (.lst xs) => some xs
    | _ => none
  | _ => none
/-- .. of a list, also of one that is only read -/
def lisOf (S : Sto) : U → Option (List U)
  | .ls xs => some xs
  | u => lstOf S u
/-- .. of a list or a tuple -/
def seqOf (S : Sto) : U → Option (List U)
  | .tup xs => some xs
  | u => lisOf S u
def lenOf (S : Sto) : U → Option Nat
  | .str s => if s.length ≤ sizeLine then some s.length else none
  | .dct ks _ => some ks.length
  | .ref a => match S a with
    | some (.lst xs) => some xs.length
    | some (.dct kvs) => some kvs.length
    | some (.dnk kvs) => if kvs.length ≤ sizeLine then some kvs.length else none
    | _ => none
  | u => (seqOf S u).map List.length
/-- a dict's key -/
def keyU : U → Option L2.Key
  | .int i => some (.inl i)
  | .str s => some (.inr ⟨s.toArray⟩)
  | _ => none
/-- what a dict holds -/
def dctOf (S : Sto) : U → Option (List (L2.Key × U))
  | .dct ks xs => some (ks.zip xs)
  | .ref a => match S a with
    | some (.dct kvs) => some kvs
    | _ => none
  | _ => none
def dnkOf (S : Sto) : U → Option (List (PySem.NestedKey × Int))
  | .ref a => match S a with
    | some (.dnk kvs) => some kvs
    | _ => none
  | _ => none
section
variable {κ α : Type} [DecidableEq κ]
def getA (kvs : List (κ × α)) (k : κ) : Option α := (kvs.find? fun kv => decide (kv.1 = k)).map (·.2)
/-- in its place, or at the end -/
def putA (kvs : List (κ × α)) (k : κ) (v : α) : List (κ × α) :=
  if (kvs.any fun kv => decide (kv.1 = k)) = true then kvs.map (fun kv => if kv.1 = k then (kv.1, v) else kv) else kvs ++ [(k, v)]
end
/-- x looks like the data x' -/
def Sn (S : Sto) (x x' : U) : Prop := ∀ (K : PySem.W.Frag) (cls : Anc) (F : Addr → Prop) (H : Hp) (v : V), SR K cls F H S → VRel K F H v x → L2.Dp K H v x'.py
/-- a dict may be locked -/
def LkR (H : Hp) (P : Hp → Prop) : Prop := P H ∨ ∃ d u, H d = some u ∧ L2.Mut (some u) ∧ ∀ od, P (upd H d (.frz od u))
/-- x may be seen as y, the store then is S2 -/
def Gst (x : U) (S : Sto) (y : U) (S2 : Sto) : Prop := ∀ (K : PySem.W.Frag) (cls : Anc) (F : Addr → Prop) (H : Hp) (v : V), SR K cls F H S → VRel K F H v x → LkR H fun H' => ∃ F', SR K cls F' H' S2 ∧ Ext F H S F' H' S2 ∧ VRel K F' H' v y
/-- a key as a value -/
def keyV : L2.Key → U
  | .inl i => .int i
  | .inr x => .str x.cps.toList
/-! what is wanted -/
structure Xn where
  c : Nat
  fs : List (Str × U)
abbrev Post := U → Sto → Prop
abbrev Spec := List U → Sto → Post → (Xn → Sto → Prop) → Prop
/-- a def's promise: how many arguments, what it asks -/
structure FS where
  n : Nat
  sp : Spec
structure ClsV where
  init : FS
  meths : List FS
structure GV where
  fns : List FS
  globs : List U
  cls : List ClsV
  attr : Nat → Str → Bool
  /-- an exception's class: its fields' names, if it may be raised -/
  exn : List (Option (List Str)) := []
  /-- is the class caught by the clause's -/
  esub : Nat → Nat → Bool := fun _ _ => false
  /-- isinstance of an exception -/
  eis : Nat → Str → Option Bool := fun _ _ => none
  /-- nothing of repr is under way -/
  gd : Bool := false
def U.lit : U → Bool
  | .non | .bl _ | .int _ | .str _ => true
  | _ => false
/-- a text of repr -/
def U.rpr (u : U) : List Nat := u.py.shown.cps.toList
/-- repr can be told -/
def rprOk (u : U) : Prop := u.data = true ∧ u.py.showable = true ∧ u.dep ≤ 128 ∧ u.py.shown.length ≤ sizeLine
/-- the environment in a suite whose name stands in slot i -/
def clr (i : Option Nat) (ρ : Env) : Env := match i with
  | some i => ρ.set i none
  | none => ρ
mutual
def hev (G : GV) (x : Xn) (ρ : Env) : HE → (U → Prop) → Prop
  | .lit u, R => u.lit = true ∧ R u
  | .fx f, R => ∃ u, x.fs.lookup f = some u ∧ R u
  | .is t, R => ∃ b, G.eis x.c t = some b ∧ R (.bl b)
  | .nt a, R => hev G x ρ a fun u => match u with
    | .bl b => R (.bl (!b))
    | _ => False
  | .and a b, R => hev G x ρ a fun u => match u with
    | .bl c => if c then hev G x ρ b R else R (.bl false)
    | _ => False
  | .var j, R => ∃ u, ρ[j]? = some (some u) ∧ R u
  | .lst es, R => hevs G x ρ es fun us => us.length ≤ sizeLine ∧ R (.lst us)
  | .add a b, R => hev G x ρ a fun u => hev G x ρ b fun v => match u, v with
    | .lst xs, .lst ys => xs.length + ys.length ≤ sizeLine ∧ R (.lst (xs ++ ys))
    | _, _ => False
  | .repr a, R => hev G x ρ a fun u => G.gd = true ∧ rprOk u ∧ R (.str u.rpr)
def hevs (G : GV) (x : Xn) (ρ : Env) : HEs → (List U → Prop) → Prop
  | .nil, R => R []
  | .cons e es, R => hev G x ρ e fun u => hevs G x ρ es fun us => R (u :: us)
end
def alloc (m : Bool) (xs : List U) (S : Sto) (R : Post) : Prop :=
  if m then ∀ a, S a = none → R (.ref a) (S.put a (.lst xs)) else R (.lst xs) S
def boolsOf : List U → Option (List Bool)
  | [] => some []
  | .bl b :: r => (boolsOf r).map (b :: ·)
  | _ => none
def strsOf : List U → Option (List (List Nat))
  | [] => some []
  | .str b :: r => (strsOf r).map (b :: ·)
  | _ => none
def intsOf : List U → Option (List Int)
  | [] => some []
  | .int b :: r => (intsOf r).map (b :: ·)
  | _ => none
def joinU (a : List Nat) : List (List Nat) → List Nat
  | [] => []
  | [x] => x
  | x :: y :: r => x ++ a ++ joinU a (y :: r)
/-- what a product asks -/
def mulOk (i j : Int) : Prop := (-(2 ^ 64) < i ∧ i < 2 ^ 64) ∨ (-(2 ^ 64) < j ∧ j < 2 ^ 64) ∨ (i.natAbs < 2 ^ 4096 ∧ j.natAbs < 2 ^ 4096)
def bopW (o : Bop) (m : Bool) (x y : U) (S : Sto) (R : Post) : Prop := match o, x, y with
  | .add, .int i, .int j => R (.int (i + j)) S
  | .add, .str a, .str b => a.length + b.length ≤ sizeLine ∧ R (.str (a ++ b)) S
  | .add, .int _, _ => False
  | .add, .str _, _ => False
  | .add, .tup xs, .tup ys => xs.length + ys.length ≤ sizeLine ∧ R (.tup (xs ++ ys)) S
  | .add, x, y => ∃ xs ys, lstOf S x = some xs ∧ lstOf S y = some ys ∧ xs.length + ys.length ≤ sizeLine ∧ alloc m (xs ++ ys) S R
  | .sub, .int i, .int j => R (.int (i - j)) S
  | .mul, .int i, .int j => mulOk i j ∧ R (.int (i * j)) S
  | .mul, .str a, .int k => k < 2 ^ 20 ∧ a.length * k.toNat ≤ sizeLine ∧ -(2 ^ 20) < k ∧ R (.str (List.replicate k.toNat a).flatten) S
  | .mul, .int _, _ => False
  | .mul, x, .int k => ∃ xs, lstOf S x = some xs ∧ k < 2 ^ 62 ∧ -(2 ^ 62) < k ∧ xs.length * k.toNat ≤ sizeLine ∧ alloc m (List.replicate k.toNat xs).flatten S R
  | .fdiv, .int i, .int j => (0 < j ∧ j < 1073741824) ∧ R (.int (i / j)) S
  | .mod, .int i, .int j => 0 < j ∧ R (.int (i % j)) S
  | .pow, .int i, .int j => (0 ≤ j ∧ j ≤ 1000000 ∧ i.natAbs < 2 ^ 64) ∧ R (.int (i ^ j.toNat)) S
  | .shl, .int i, .int j => (0 ≤ j ∧ j ≤ 1000000 ∧ i.natAbs < 2 ^ 64) ∧ R (.int (i * 2 ^ j.toNat)) S
  | .shr, .int i, .int j => 0 ≤ j ∧ R (.int (i / 2 ^ j.toNat)) S
  | .band, .int i, .int j => R (.int (PySem.Builtin.bitAnd i j)) S
  | _, _, _ => False
def eqW (x y : U) (S : Sto) (k : Bool → Prop) : Prop := match x, y with
  | .int i, .int j => k (i == j)
  | .str a, .str b => k (a == b)
  | .bl a, .bl b => k (a == b)
  | .non, .non => k true
  | x, y => ∃ x' y', Sn S x x' ∧ Sn S y y' ∧ eqable x' ∧ eqable y' ∧ k (ueq x' y')
def inW (x y : U) (S : Sto) (k : Bool → Prop) : Prop := match y with
  | .str t => ∃ c, x = .str [c] ∧ k (decide (c ∈ t))
  | .dct ks xs => ∃ q, keyU x = some q ∧ k (getA (ks.zip xs) q).isSome
  | .ref a => match S a with
    | some (.lst ys) => x.flat = true ∧ ys.all U.flat = true ∧ k (ys.any fun z => ueq z x)
    | some (.dct kvs) => ∃ q, keyU x = some q ∧ k (getA kvs q).isSome
    | some (.dnk kvs) => ∃ l q, x = .tup l ∧ nkU x = some q ∧ q.depth ≤ 8 ∧ k (getA kvs q).isSome
    | _ => False
  | y => ∃ ys, seqOf S y = some ys ∧ x.flat = true ∧ ys.all U.flat = true ∧ k (ys.any fun z => ueq z x)
def copW (o : Cop) (x y : U) (S : Sto) (k : Bool → Prop) : Prop := match o with
  | .eq => eqW x y S k
  | .ne => eqW x y S fun b => k (!b)
  | .lt => match x, y with
    | .int i, .int j => k (decide (i < j))
    | .str a, .str b => k (decide (a < b))
    | _, _ => False
  | .le => match x, y with
    | .int i, .int j => k (decide (i ≤ j))
    | .str a, .str b => k (!decide (b < a))
    | _, _ => False
  | .gt => match x, y with
    | .int i, .int j => k (decide (j < i))
    | _, _ => False
  | .ge => match x, y with
    | .int i, .int j => k (decide (j ≤ i))
    | _, _ => False
  | .isin => inW x y S k
  | .notin => inW x y S fun b => k (!b)
  | .isN => match x, y with
    | .non, .non => k true
    | _, .non => k false
    | .bl a, .bl b => k (a == b)
    | _, _ => False
  | .notN => match x, y with
    | .non, .non => k false
    | _, .non => k true
    | .bl a, .bl b => k (!(a == b))
    | _, _ => False
/-- truth -/
def truOf (S : Sto) : U → Option Bool
  | .non => some false
  | .bl b => some b
  | .int i => some (i != 0)
  | .str s => if s.length ≤ sizeLine then some (s.length != 0) else none
  | u => (seqOf S u).map fun xs => !xs.isEmpty
def idxW (x i : U) (S : Sto) (R : Post) : Prop := match x, i with
  | .str s, .int i => s.length ≤ sizeLine ∧ ∃ c, atI s i = some c ∧ R (.str [c]) S
  | x, .int i => ∃ xs u, seqOf S x = some xs ∧ atI xs i = some u ∧ R u S
  | x, .str s => ∃ kvs u, dctOf S x = some kvs ∧ getA kvs (.inr ⟨s.toArray⟩) = some u ∧ R u S
  | x, .tup l => ∃ kvs q n, dnkOf S x = some kvs ∧ nkU (.tup l) = some q ∧ q.depth ≤ 8 ∧ getA kvs q = some n ∧ R (.int n) S
  | _, _ => False
def cutU {α : Type} (xs : List α) (lo hi : Option Int) : List α := (xs.drop (HT.sIx xs.length 0 lo)).take (HT.sIx xs.length xs.length hi - HT.sIx xs.length 0 lo)
def slcW (m : Bool) (x : U) (lo hi : Option Int) (S : Sto) (R : Post) : Prop := match x with
  | .str s => s.length ≤ sizeLine ∧ R (.str (cutU s lo hi)) S
  | .tup xs => R (.tup (cutU xs lo hi)) S
  | x => ∃ xs, lisOf S x = some xs ∧ alloc m (cutU xs lo hi) S R
def bltW (b : Blt) (us : List U) (S : Sto) (R : Post) : Prop := match b, us with
  | .len, [x] => ∃ n, lenOf S x = some n ∧ R (.int n) S
  | .int, [.int i] => R (.int i) S
  | .int, [.bl b] => R (.int (if b then 1 else 0)) S
  | .max2, [.int i, .int j] => R (.int (if j > i then j else i)) S
  | .min2, [.int i, .int j] => R (.int (if j < i then j else i)) S
  | .all, [x] => ∃ xs bs, lisOf S x = some xs ∧ boolsOf xs = some bs ∧ R (.bl (bs.all id)) S
  | .any, [x] => ∃ xs bs, lisOf S x = some xs ∧ boolsOf xs = some bs ∧ R (.bl (bs.any id)) S
  | .list m, [x] => ∃ xs, seqOf S x = some xs ∧ alloc m xs S R
  | .abs, [.int i] => R (.int (if i < 0 then -i else i)) S
  | .sorti m, [x] => ∃ xs ns, lisOf S x = some xs ∧ intsOf xs = some ns ∧ ∀ ns' : List Int, ns'.Perm ns → ns'.Pairwise (· ≤ ·) → alloc m (ns'.map .int) S R
  | .sortd m, [x] => ∃ kvs, dctOf S x = some kvs ∧ ∃ ts : List (List Nat), kvs.map (·.1) = ts.map (fun t => Sum.inr ⟨t.toArray⟩) ∧ ts.length < 64 ∧ ∀ ys : List (List Nat), ys.Perm ts → sortedS (ys.map fun t => (⟨t.toArray⟩ : Str)) = true → alloc m (ys.map .str) S R
  | .tuple, [.tup xs] => R (.tup xs) S
  | .tuple, [x] => ∃ xs, lisOf S x = some xs ∧ R (.tup xs) S
  | _, _ => False
def mthW (m : Mth) (o : U) (us : List U) (S : Sto) (R : Post) : Prop := match m, o, us with
  | .append, .ref a, [x] => ∃ xs, S a = some (.lst xs) ∧ xs.length < sizeLine ∧ R .non (S.put a (.lst (xs ++ [x])))
  | .pop, .ref a, [] => ∃ xs x, S a = some (.lst xs) ∧ xs[xs.length - 1]? = some x ∧ R x (S.put a (.lst xs.dropLast))
  | .extend, .ref a, [y] => ∃ xs ys, S a = some (.lst xs) ∧ (y = .tup ys ∨ lstOf S y = some ys) ∧ xs.length + ys.length ≤ sizeLine ∧ R .non (S.put a (.lst (xs ++ ys)))
  | .join, .str s, [y] => ∃ xs ss, lisOf S y = some xs ∧ strsOf xs = some ss ∧ (ss.map List.length).sum + ss.length * s.length ≤ 16777216 ∧ R (.str (joinU s ss)) S
  | .insert, .ref a, [.int i, x] => ∃ xs, S a = some (.lst xs) ∧ xs.length < sizeLine ∧ 0 ≤ i ∧ i < 2 ^ 63 ∧ R .non (S.put a (.lst (xs.take i.toNat ++ [x] ++ xs.drop i.toNat)))
  | .remove, .ref a, [.int n] => ∃ (ns : List Int) (j : Nat), S a = some (.lst (ns.map .int)) ∧ ns[j]? = some n ∧ (∀ m : Nat, m < j → ns[m]? ≠ some n) ∧ R .non (S.put a (.lst ((ns.eraseIdx j).map .int)))
  | _, _, _ => False
/-- the receiver's type, ahead of the arguments -/
def mthTy (m : Mth) (x : U) (S : Sto) : Prop := match m with
  | .join => ∃ s, x = .str s
  | _ => ∃ a xs, x = .ref a ∧ S a = some (.lst xs)
def fmtW (x : U) (S : Sto) (R : Post) : Prop := match x with
  | .str s => s.length ≤ sizeLine ∧ R (.str s) S
  | _ => False
def rngU (lo : Int) (n : Nat) : List U := (List.range n).map fun (i : Nat) => U.int (lo + (i : Int))
/-- range(lo, hi, -1) -/
def rngD (lo : Int) (n : Nat) : List U := (List.range n).map fun (i : Nat) => U.int (lo - (i : Int))
/-- x[::-1] -/
def revW (m : Bool) (x : U) (S : Sto) (R : Post) : Prop := ∃ xs, lisOf S x = some xs ∧ alloc m xs.reverse S R
/-- {k: v} -/
def dct1W (k v : U) (S : Sto) (R : Post) : Prop := ∃ q, keyU k = some q ∧ ∀ a, S a = none → R (.ref a) (S.put a (.dct [(q, v)]))
/-- a target takes a value -/
def setsU : List Nat → List U → Env → Option Env
  | [], [], ρ => some ρ
  | i :: is, u :: us, ρ => setsU is us (ρ.set i (some u))
  | _, _, _ => none
def tgW (g : Tg) (u : U) (ρ : Env) (k : Env → Prop) : Prop := match g with
  | .one i => k (ρ.set i (some u))
  | .tup is => match u with
    | .tup us => ∃ ρ', setsU is us ρ = some ρ' ∧ k ρ'
    | _ => False
def Tg.slots : Tg → List Nat
  | .one i => [i]
  | .tup is => is
structure Out where
  nx : Env → Sto → Prop
  rt : U → Sto → Prop
  bk : Env → Sto → Prop := fun _ _ => False
  ct : Env → Sto → Prop := fun _ _ => False
def forW (g : Tg) (gd : Sto → Prop) (body : Env → Sto → Out → Prop) (D : Out) : List U → Env → Sto → Prop
  | [], ρ, S => gd S ∧ D.nx ρ S
  | x :: xs, ρ, S => gd S ∧ tgW g x ρ fun ρ' => body ρ' S { nx := forW g gd body D xs, ct := forW g gd body D xs, bk := D.nx, rt := D.rt }
def lcW (m : Bool) (own : List Nat) (g : Tg) (gd : Sto → Prop) (c : Env → Sto → (Bool → Sto → Prop) → Prop) (e : Env → Sto → Post → Prop) (R : Post) (ρ : Env) : List U → List U → Sto → Prop
  | [], acc, S => gd S ∧ alloc m acc S R
  | x :: xs, acc, S => gd S ∧ tgW g x (wipeU ρ own) fun ρ2 => c ρ2 S fun b S1 =>
      if b then e ρ2 S1 fun y S2 => acc.length < sizeLine ∧ lcW m own g gd c e R ρ xs (acc ++ [y]) S2 else lcW m own g gd c e R ρ xs acc S1
/-- sorted({..}): what is met so far -/
def scW (own : List Nat) (g : Tg) (gd : Sto → Prop) (c : Env → Sto → (Bool → Sto → Prop) → Prop) (e : Env → Sto → Post → Prop) (K : List Int → Sto → Prop) (ρ : Env) : List U → List Int → Sto → Prop
  | [], acc, S => gd S ∧ K acc S
  | x :: xs, acc, S => gd S ∧ tgW g x (wipeU ρ own) fun ρ2 => c ρ2 S fun b S1 =>
      if b then e ρ2 S1 fun y S2 => ∃ n, y = .int n ∧ acc.length < 1000 ∧ scW own g gd c e K ρ xs (acc ++ [n]) S2 else scW own g gd c e K ρ xs acc S1
/-- the members in order -/
def srtW (m : Bool) (R : Post) (acc : List Int) (S : Sto) : Prop := acc.length < 64 ∧ ∀ ns : List Int, ns.Pairwise (· < ·) → (∀ k, k ∈ ns ↔ k ∈ acc) → alloc m (ns.map .int) S R
/-- the inner walk of a comprehension of two walks -/
def liW (vs : List Nat) (g : Tg) (gd : Sto → Prop) (c : Env → Sto → (Bool → Sto → Prop) → Prop) (e : Env → Sto → Post → Prop) (K : List U → Sto → Prop) (ρ : Env) : List U → List U → Sto → Prop
  | [], acc, S => gd S ∧ K acc S
  | x :: xs, acc, S => gd S ∧ tgW g x (wipeU ρ vs) fun ρ2 => c ρ2 S fun b S1 =>
      if b then e ρ2 S1 fun y S2 => acc.length < sizeLine ∧ liW vs g gd c e K ρ xs (acc ++ [y]) S2 else liW vs g gd c e K ρ xs acc S1
/-- the outer one -/
def loW (m : Bool) (own vs : List Nat) (g : Tg) (gd : Sto → Prop) (c : Env → Sto → (Bool → Sto → Prop) → Prop) (w1 : Env → Sto → (List U → (Sto → Prop) → Sto → Prop) → Prop) (g1 : Tg) (c1 : Env → Sto → (Bool → Sto → Prop) → Prop) (e : Env → Sto → Post → Prop) (R : Post) (ρ : Env) : List U → List U → Sto → Prop
  | [], acc, S => gd S ∧ alloc m acc S R
  | x :: xs, acc, S => gd S ∧ tgW g x (wipeU ρ own) fun ρ2 => c ρ2 S fun b S1 =>
      if b then w1 ρ2 S1 fun ys gd1 S2 => liW vs g1 gd1 c1 e (fun acc' S' => loW m own vs g gd c w1 g1 c1 e R ρ xs acc' S') ρ2 ys acc S2
      else loW m own vs g gd c w1 g1 c1 e R ρ xs acc S1
/-- x[y] = u -/
def setIxW (x y u : U) (S : Sto) (k : Sto → Prop) : Prop := match x with
  | .ref a => match S a with
    | some (.lst xs) => ∃ i j, y = .int i ∧ ixN xs.length i = some j ∧ k (S.put a (.lst (xs.set j u)))
    | some (.dct kvs) => ∃ q, keyU y = some q ∧ kvs.length < sizeLine ∧ k (S.put a (.dct (putA kvs q u)))
    | some (.dnk kvs) => ∃ l q n, y = .tup l ∧ nkU y = some q ∧ q.depth ≤ 8 ∧ u = .int n ∧ kvs.length < sizeLine ∧ k (S.put a (.dnk (putA kvs q n)))
    | _ => False
  | _ => False
/-- x.f = u -/
def setFW (at_ : Nat → Str → Bool) (x : U) (f : Str) (u : U) (S : Sto) (k : Sto → Prop) : Prop := ∃ a c fs, x = .ref a ∧ S a = some (.ins c fs) ∧ at_ c f = true ∧ fs.length < 100 ∧ k (S.put a (.ins c (putU f u fs)))
/-- x.f -/
def fldW (at_ : Nat → Str → Bool) (x : U) (f : Str) (S : Sto) (R : Post) : Prop := ∃ a c fs u, x = .ref a ∧ S a = some (.ins c fs) ∧ at_ c f = true ∧ fs.lookup f = some u ∧ R u S
/-- the ghost: x is not changed any more -/
def frzW (x : U) (S : Sto) (R : Post) : Prop := ∃ b xs, x = .ref b ∧ S b = some (.lst xs) ∧ R (.lst xs) (S.del b)
abbrev RXn := Xn → Env → Sto → Prop
/-- an except suite's wish; ρ: slot i is empty -/
def wH (G : GV) (x : Xn) (i : Option Nat) : List Hs → Env → Sto → Out → Prop
  | [], ρ, S, D => D.nx ρ S
  | .ret e :: _, ρ, S, D => hev G x ρ e fun u => D.rt u S
  | .set j e :: r, ρ, S, D => i ≠ some j ∧ hev G x ρ e fun u => wH G x i r (ρ.set j (some u)) S D
  | .pas :: r, ρ, S, D => wH G x i r ρ S D
/-- the clauses, one after the other -/
def wHm (G : GV) (RX : RXn) (x : Xn) (D : Out) : List Cl → Env → Sto → Prop
  | [], ρ, S => RX x ρ S
  | q :: r, ρ, S => if G.esub x.c q.c then (∀ i, q.i = some i → i < ρ.length) ∧ wH G x q.i q.h (clr q.i ρ) S D else wHm G RX x D r ρ S
mutual
def wE (G : GV) (RX : RXn) : E → Env → Sto → Post → Prop
  | .lit u, _, S, R => R u S
  | .var i, ρ, S, R => ∃ u, ρ[i]? = some (some u) ∧ R u S
  | .glb i, _, S, R => ∃ u, G.globs[i]? = some u ∧ R u S
  | .bin o m a b, ρ, S, R => wE G RX a ρ S fun x S1 => wE G RX b ρ S1 fun y S2 => bopW o m x y S2 R
  | .neg a, ρ, S, R => wE G RX a ρ S fun x S1 => match x with | .int i => R (.int (-i)) S1 | _ => False
  | .cmp o a b, ρ, S, R => wE G RX a ρ S fun x S1 => wE G RX b ρ S1 fun y S2 => copW o x y S2 fun k => R (.bl k) S2
  | .chain o p a b c, ρ, S, R => wE G RX a ρ S fun x S1 => wE G RX b ρ S1 fun y S2 => copW o x y S2 fun k => if k then wE G RX c ρ S2 fun z S3 => copW p y z S3 fun k' => R (.bl k') S3 else R (.bl false) S2
  | .ands es, ρ, S, R => wAnds G RX es ρ S R
  | .ors es, ρ, S, R => wOrs G RX es ρ S R
  | .nt a, ρ, S, R => wE G RX a ρ S fun x S1 => match x with | .bl b => R (.bl (!b)) S1 | _ => False
  | .ife t a b, ρ, S, R => wT G RX t ρ S fun k S1 => if k then wE G RX a ρ S1 R else wE G RX b ρ S1 R
  | .tup es, ρ, S, R => wEs G RX es ρ S fun us S1 => us.length ≤ sizeLine ∧ R (.tup us) S1
  | .lst m es, ρ, S, R => wEs G RX es ρ S fun us S1 => us.length ≤ sizeLine ∧ alloc m us S1 R
  | .idx a i, ρ, S, R => wE G RX a ρ S fun x S1 => wE G RX i ρ S1 fun y S2 => idxW x y S2 R
  | .slc m a lo hi, ρ, S, R => wE G RX a ρ S fun x S1 => wO G RX lo ρ S1 fun l S2 => wO G RX hi ρ S2 fun h S3 => slcW m x l h S3 R
  | .lc m own g it c e, ρ, S, R => wI G RX it ρ S fun xs gd S1 => lcW m (own.map (·.2)) g gd (fun ρ S k => wT G (fun _ _ _ => False) c ρ S k) (fun ρ S R => wE G (fun _ _ _ => False) e ρ S R) R ρ xs [] S1
  | .call f es, ρ, S, R => ∃ sp, G.fns[f]? = some sp ∧ wEs G RX es ρ S fun us S1 => us.length = sp.n ∧ sp.sp us S1 R fun x S2 => RX x ρ S2
  | .blt b es, ρ, S, R => wEs G RX es ρ S fun us S1 => bltW b us S1 R
  | .isi a t, ρ, S, R => wE G RX a ρ S fun x S1 => ∃ t' b, tyOf S1 x = some t' ∧ kitB t' t = some b ∧ R (.bl b) S1
  | .meth m o es, ρ, S, R => wE G RX o ρ S fun x S1 => mthTy m x S1 ∧ wEs G RX es ρ S1 fun us S2 => mthW m x us S2 R
  | .fld o f, ρ, S, R => wE G RX o ρ S fun x S1 => fldW G.attr x f S1 R
  | .omt c m o es, ρ, S, R => ∃ cv sp, G.cls[c]? = some cv ∧ cv.meths[m]? = some sp ∧ wE G RX o ρ S fun x S1 => ∃ a fs, x = .ref a ∧ S1 a = some (.ins c fs) ∧ (∀ y ∈ fs, G.attr c y.1 = true) ∧ wEs G RX es ρ S1 fun us S2 => us.length + 1 = sp.n ∧ sp.sp (x :: us) S2 R fun x S3 => RX x ρ S3
  | .mk c es, ρ, S, R => ∃ cv, G.cls[c]? = some cv ∧ wEs G RX es ρ S fun us S1 => us.length + 1 = cv.init.n ∧ ∀ a, S1 a = none → cv.init.sp (.ref a :: us) (S1.put a (.ins c [])) (fun u S2 => u = .non ∧ R (.ref a) S2) fun _ _ => False
  | .fstr es, ρ, S, R => wJ G RX es [] ρ S fun s S1 => R (.str s) S1
  | .fmt a, ρ, S, R => wE G RX a ρ S fun x S1 => fmtW x S1 R
  | .frz a, ρ, S, R => wE G RX a ρ S fun x S1 => frzW x S1 R
  | .rev m a, ρ, S, R => wE G RX a ρ S fun x S1 => revW m x S1 R
  | .revT a, ρ, S, R => wE G RX a ρ S fun x S1 => match x with | .tup xs => R (.tup xs.reverse) S1 | _ => False
  | .repr a, ρ, S, R => wE G RX a ρ S fun x S1 => G.gd = true ∧ rprOk x ∧ R (.str x.rpr) S1
  | .dct1 a b, ρ, S, R => wE G RX a ρ S fun x S1 => wE G RX b ρ S1 fun y S2 => dct1W x y S2 R
  | .dct0, _, S, R => ∀ a, S a = none → R (.ref a) (S.put a (.dct []))
  | .dnk0, _, S, R => ∀ a, S a = none → R (.ref a) (S.put a (.dnk []))
  | .dget o k d, ρ, S, R => wE G RX o ρ S fun x S1 => (∃ kvs, dctOf S1 x = some kvs) ∧ wE G RX k ρ S1 fun y S2 => wE G RX d ρ S2 fun z S3 => ∃ kvs q, dctOf S3 x = some kvs ∧ keyU y = some q ∧ R ((getA kvs q).getD z) S3
  | .srts m a, ρ, S, R => wE G RX a ρ S fun x S1 => ∃ xs ns, lisOf S1 x = some xs ∧ intsOf xs = some ns ∧ srtW m R ns S1
  | .srtsc m own g it c e, ρ, S, R => wI G RX it ρ S fun xs gd S1 => scW (own.map (·.2)) g gd (fun ρ S k => wT G (fun _ _ _ => False) c ρ S k) (fun ρ S R => wE G (fun _ _ _ => False) e ρ S R) (srtW m R) ρ xs [] S1
  | .lc2 m own vs g it c g1 it1 c1 e, ρ, S, R => wI G RX it ρ S fun xs gd S1 => loW m (own.map (·.2)) vs g gd (fun ρ S k => wT G (fun _ _ _ => False) c ρ S k) (fun ρ S k => wI G (fun _ _ _ => False) it1 ρ S k) g1 (fun ρ S k => wT G (fun _ _ _ => False) c1 ρ S k) (fun ρ S R => wE G (fun _ _ _ => False) e ρ S R) R ρ xs [] S1
  | .gst a, ρ, S, R => wE G RX a ρ S fun x S1 => ∃ y S2, Gst x S1 y S2 ∧ R y S2
def wEs (G : GV) (RX : RXn) : Es → Env → Sto → (List U → Sto → Prop) → Prop
  | .nil, _, S, R => R [] S
  | .cons e es, ρ, S, R => wE G RX e ρ S fun x S1 => wEs G RX es ρ S1 fun xs S2 => R (x :: xs) S2
/-- the parts of an f-string together -/
def wJ (G : GV) (RX : RXn) : Es → List Nat → Env → Sto → (List Nat → Sto → Prop) → Prop
  | .nil, acc, _, S, R => R acc S
  | .cons e es, acc, ρ, S, R => wE G RX e ρ S fun x S1 => match x with | .str s => (acc ++ s).length ≤ sizeLine ∧ wJ G RX es (acc ++ s) ρ S1 R | _ => False
def wAnds (G : GV) (RX : RXn) : Es → Env → Sto → Post → Prop
  | .nil, _, _, _ => False
  | .cons e .nil, ρ, S, R => wE G RX e ρ S R
  | .cons e es, ρ, S, R => wE G RX e ρ S fun x S1 => match x with | .bl b => if b then wAnds G RX es ρ S1 R else R (.bl false) S1 | _ => False
def wOrs (G : GV) (RX : RXn) : Es → Env → Sto → Post → Prop
  | .nil, _, _, _ => False
  | .cons e .nil, ρ, S, R => wE G RX e ρ S R
  | .cons e es, ρ, S, R => wE G RX e ρ S fun x S1 => match x with | .bl b => if b then R (.bl true) S1 else wOrs G RX es ρ S1 R | _ => False
def wT (G : GV) (RX : RXn) : T → Env → Sto → (Bool → Sto → Prop) → Prop
  | .val e, ρ, S, R => wE G RX e ρ S fun x S1 => match x with | .bl b => R b S1 | _ => False
  | .tru e, ρ, S, R => wE G RX e ρ S fun x S1 => ∃ b, truOf S1 x = some b ∧ R b S1
  | .cmp o a b, ρ, S, R => wE G RX a ρ S fun x S1 => wE G RX b ρ S1 fun y S2 => copW o x y S2 fun k => R k S2
  | .chain o p a b c, ρ, S, R => wE G RX a ρ S fun x S1 => wE G RX b ρ S1 fun y S2 => copW o x y S2 fun k => if k then wE G RX c ρ S2 fun z S3 => copW p y z S3 fun k' => R k' S3 else R false S2
  | .ands ts, ρ, S, R => wTAnds G RX ts ρ S R
  | .ors ts, ρ, S, R => wTOrs G RX ts ρ S R
  | .nt t, ρ, S, R => wT G RX t ρ S fun b S1 => R (!b) S1
  | .yes, _, S, R => R true S
def wTAnds (G : GV) (RX : RXn) : Ts → Env → Sto → (Bool → Sto → Prop) → Prop
  | .one t, ρ, S, R => wT G RX t ρ S R
  | .cons t ts, ρ, S, R => wT G RX t ρ S fun b S1 => if b then wTAnds G RX ts ρ S1 R else R false S1
def wTOrs (G : GV) (RX : RXn) : Ts → Env → Sto → (Bool → Sto → Prop) → Prop
  | .one t, ρ, S, R => wT G RX t ρ S R
  | .cons t ts, ρ, S, R => wT G RX t ρ S fun b S1 => if b then R true S1 else wTOrs G RX ts ρ S1 R
def wI (G : GV) (RX : RXn) : It → Env → Sto → (List U → (Sto → Prop) → Sto → Prop) → Prop
  | .seq e, ρ, S, R => wE G RX e ρ S fun x S1 => match x with
    | .str s => R (s.map fun c => U.str [c]) (fun _ => True) S1
    | .ref a => ∃ xs, S1 a = some (.lst xs) ∧ R xs (fun S => S a = some (.lst xs)) S1
    | .lst xs => R xs (fun _ => True) S1
    | .ls xs => R xs (fun _ => True) S1
    | .tup xs => R xs (fun _ => True) S1
    | .dct ks _ => R (ks.map keyV) (fun _ => True) S1
    | _ => False
  | .items e, ρ, S, R => wE G RX e ρ S fun x S1 => match x with
    | .dct ks xs => R ((ks.zip xs).map fun kv => .tup [keyV kv.1, kv.2]) (fun _ => True) S1
    | _ => False
  | .enum e, ρ, S, R => wE G RX e ρ S fun x S1 => match x with
    | .lst xs => R (xs.zipIdx.map fun xi => .tup [.int (xi.2 : Int), xi.1]) (fun _ => True) S1
    | .ref a => ∃ xs, S1 a = some (.lst xs) ∧ R (xs.zipIdx.map fun xi => .tup [.int (xi.2 : Int), xi.1]) (fun S => S a = some (.lst xs)) S1
    | _ => False
  | .rng1 a, ρ, S, R => wE G RX a ρ S fun x S1 => match x with
    | .int j => (-(2 ^ 62) ≤ j ∧ j < 2 ^ 62) ∧ R (rngU 0 j.toNat) (fun _ => True) S1
    | _ => False
  | .rng2 a b, ρ, S, R => wE G RX a ρ S fun x S1 => wE G RX b ρ S1 fun y S2 => match x, y with
    | .int i, .int j => (-(2 ^ 62) ≤ i ∧ i < 2 ^ 62 ∧ -(2 ^ 62) ≤ j ∧ j < 2 ^ 62) ∧ R (rngU i (j - i).toNat) (fun _ => True) S2
    | _, _ => False
  | .rvs a, ρ, S, R => wE G RX a ρ S fun x S1 => match x with
    | .lst xs => R xs.reverse (fun _ => True) S1
    | _ => False
  | .rngD a b, ρ, S, R => wE G RX a ρ S fun x S1 => wE G RX b ρ S1 fun y S2 => match x, y with
    | .int i, .int j => (-(2 ^ 62) ≤ i ∧ i < 2 ^ 62 ∧ -(2 ^ 62) ≤ j ∧ j < 2 ^ 62) ∧ R (rngD i (i - j).toNat) (fun _ => True) S2
    | _, _ => False
def wO (G : GV) (RX : RXn) : O → Env → Sto → (Option Int → Sto → Prop) → Prop
  | .no, _, S, R => R none S
  | .so e, ρ, S, R => wE G RX e ρ S fun x S1 => match x with | .int i => R (some i) S1 | _ => False
end
mutual
def wC (G : GV) (RX : RXn) : Cm → Env → Sto → Out → Prop
  | .set i e, ρ, S, D => wE G RX e ρ S fun u S1 => D.nx (ρ.set i (some u)) S1
  | .setT is e, ρ, S, D => wE G RX e ρ S fun u S1 => tgW (.tup is) u ρ fun ρ' => D.nx ρ' S1
  | .setIx o i e, ρ, S, D => wE G RX e ρ S fun u S1 => wE G RX o ρ S1 fun x S2 => wE G RX i ρ S2 fun y S3 => setIxW x y u S3 fun S4 => D.nx ρ S4
  | .setF o f e, ρ, S, D => wE G RX e ρ S fun u S1 => wE G RX o ρ S1 fun x S2 => setFW G.attr x f u S2 fun S3 => D.nx ρ S3
  | .aug i o e, ρ, S, D => ∃ x, ρ[i]? = some (some x) ∧ wE G RX e ρ S fun y S1 => match x, y with
    | .int _, .int _ => (o = .add ∨ o = .sub) ∧ bopW o false x y S1 fun z S2 => D.nx (ρ.set i (some z)) S2
    | _, _ => False
  | .ex e, ρ, S, D => wE G RX e ρ S fun _ S1 => D.nx ρ S1
  | .ret e, ρ, S, D => wE G RX e ρ S D.rt
  | .retN, _, S, D => D.rt .non S
  | .ite t a b, ρ, S, D => wT G RX t ρ S fun k S1 => if k then wCms G RX a ρ S1 D else wCms G RX b ρ S1 D
  | .whl t b, ρ, S, D => ∃ I : Nat → Env → Sto → Prop, (∃ n, I n ρ S) ∧ ∀ n ρ S, I n ρ S → wT G RX t ρ S fun k S1 =>
      if k then wCms G RX b ρ S1 { nx := fun ρ' S' => ∃ m, m < n ∧ I m ρ' S', ct := fun ρ' S' => ∃ m, m < n ∧ I m ρ' S', bk := D.nx, rt := D.rt } else D.nx ρ S1
  | .for g it b, ρ, S, D => wI G RX it ρ S fun xs gd S1 => forW g gd (fun ρ S D => wCms G RX b ρ S D) D xs ρ S1
  | .brk, ρ, S, D => D.bk ρ S
  | .cnt, ρ, S, D => D.ct ρ S
  | .pas, ρ, S, D => D.nx ρ S
  | .mat e cs, ρ, S, D => wE G RX e ρ S fun u S1 => wCs G RX cs u ρ S1 D
  | .tryN b, ρ, S, D => wCms G (fun _ _ _ => False) b ρ S D
  | .never, _, _, _ => False
  | .rai c es, ρ, S, D => ∃ fl, G.exn[c]? = some (some fl) ∧ fl ≠ [] ∧ wEs G RX es ρ S fun us S1 => us.length = fl.length ∧ RX ⟨c, (fl.zip us).reverse⟩ ρ S1
  | .rai0 c, ρ, S, D => G.exn[c]? = some (some []) ∧ RX ⟨c, []⟩ ρ S
  | .tryM b hs, ρ, S, D => wCms G (fun x ρ' S' => wHm G RX x D hs ρ' S') b ρ S D
def wCms (G : GV) (RX : RXn) : Cms → Env → Sto → Out → Prop
  | .nil, ρ, S, D => D.nx ρ S
  | .cons s r, ρ, S, D => wC G RX s ρ S { D with nx := fun ρ' S' => wCms G RX r ρ' S' D }
def wCs (G : GV) (RX : RXn) : Cs → U → Env → Sto → Out → Prop
  | .nil, _, ρ, S, D => D.nx ρ S
  | .dflt b, _, ρ, S, D => wCms G RX b ρ S D
  | .cons ps b r, u, ρ, S, D => eqable u ∧ if ps.any (fun p => ueq u (.str p)) then wCms G RX b ρ S D else wCs G RX r u ρ S D
end
end Mm
/-! MmC: the hand layer's rules over deep values, by values -/
namespace Mm
open PySem PySem.Spec PyProof.Rows L2
section
variable {K : PySem.W.Frag} {cls : Anc} {F F' F1 : Addr → Prop} {H H' H1 : Hp} {S S' S1 : Sto} {v w : V} {u x y : U} {us xs : List U} {vs : List V}
mutual
theorem VRel.dp : ∀ {v : V} {u : U}, VRel K F H v u → u.data = true → Dp K H v u.py
  | _, _, .non, _ => .non
  | _, _, .bl b, _ => .bl b
  | _, _, .int i, _ => .int i
  | _, _, .str s, _ => .str _
  | _, _, .tup h r, d => .tup h.sq (VRels.dp r d)
  | _, _, .lst _ h r, d => .lst (SqL.of h) (VRels.dp r d)
  | _, _, .ls h r, d => .lst h.sq (VRels.dp r d)
  | _, _, .ref a, d => by simp [U.data] at d
  | _, _, .dct .., d => by simp [U.data] at d
theorem VRels.dp : ∀ {vs : List V} {us : List U}, VRels K F H vs us → datas us = true → DpAll K H vs (pys us)
  | _, _, .nil, _ => .nil
  | _, _, .cons h r, d => by
    simp only [datas, Bool.and_eq_true] at d
    exact .cons (VRel.dp h d.1) (VRels.dp r d.2)
end
mutual
theorem data_lay : ∀ u : U, u.data = true → u.py.canLay0 = true
  | .non, _ => rfl
  | .bl _, _ => rfl
  | .int _, _ => rfl
  | .str s, d => by
    simp only [U.data] at d
    simp only [U.py, PyData.canLay0, PyData.strOk]
    simpa using d
  | .tup xs, d => by simp only [U.data] at d; simp only [U.py, PyData.canLay0]; exact datas_lay xs d
  | .lst xs, d => by simp only [U.data] at d; simp only [U.py, PyData.canLay0]; exact datas_lay xs d
  | .ls xs, d => by simp only [U.data] at d; simp only [U.py, PyData.canLay0]; exact datas_lay xs d
  | .ref a, d => by simp [U.data] at d
  | .dct .., d => by simp [U.data] at d
theorem datas_lay : ∀ us : List U, datas us = true → PyData.canLayAll0 (pys us) = true
  | [], _ => rfl
  | x :: xs, d => by
    simp only [datas, Bool.and_eq_true] at d
    simp only [pys, PyData.canLayAll0, Bool.and_eq_true]
    exact ⟨data_lay x d.1, datas_lay xs d.2⟩
end
mutual
theorem dep_py : ∀ u : U, u.py.depth = u.dep
  | .non => rfl
  | .bl _ => rfl
  | .int _ => rfl
  | .str _ => rfl
  | .tup xs => by simp only [U.py, PyData.depth, U.dep, deps_py xs]
  | .lst xs => by simp only [U.py, PyData.depth, U.dep, deps_py xs]
  | .ls xs => by simp only [U.py, PyData.depth, U.dep, deps_py xs]
  | .ref _ => rfl
  | .dct .. => rfl
theorem deps_py : ∀ us : List U, PyData.depthAll (pys us) = deps us
  | [] => rfl
  | x :: xs => by simp only [pys, PyData.depthAll, deps, dep_py x, deps_py xs]
end
/-- == of deep data -/
def rEqM (K : PySem.W.Frag) (neg : Bool) : R2 := fun x y H Q => ∃ d e, Dp K H x d ∧ Dp K H y e ∧ d.canLay0 = true ∧ e.canLay0 = true ∧ d.depth ≤ 128 ∧ Q (.bl (if neg then !PyData.eqv d e else PyData.eqv d e)) H
theorem op_eqM {X : Cx} (hu : X.A.units + 128 < cLine) : OpR X (compareOp .Eq) (rEqM X.K false) := fun pins s σ H x y v u Q I rx ry ⟨d, e, hd, he, sd, se, dd, q⟩ => by
  obtain ⟨as, r1⟩ := Dp.reads I d x v hd rx
  obtain ⟨bs, r2⟩ := Dp.reads I e y u he ry
  exact SeqAt.compareEq_reads r1 r2 sd se (by have := Nat.min_le_left d.depth e.depth; omega) ⟨.bl _, H, I, rfl, q⟩
theorem op_neM {X : Cx} (hu : X.A.units + 128 < cLine) : OpR X (compareOp .NotEq) (rEqM X.K true) := fun pins s σ H x y v u Q I rx ry ⟨d, e, hd, he, sd, se, dd, q⟩ => by
  obtain ⟨as, r1⟩ := Dp.reads I d x v hd rx
  obtain ⟨bs, r2⟩ := Dp.reads I e y u he ry
  exact SeqAt.compareNe_reads r1 r2 sd se (by have := Nat.min_le_left d.depth e.depth; omega) ⟨.bl _, H, I, rfl, q⟩
theorem str_beq (a b : List Nat) : ((⟨a.toArray⟩ : Str) == ⟨b.toArray⟩) = (a == b) := by
  rw [Bool.eq_iff_iff, beq_iff_eq, beq_iff_eq]
  constructor
  · intro e; injection e with e; simpa using e
  · intro e; rw [e]
theorem str_eq (a b : List Nat) : ((⟨a.toArray⟩ : Str) = ⟨b.toArray⟩) ↔ a = b := by
  constructor
  · intro e; injection e with e; simpa using e
  · intro e; rw [e]
mutual
theorem eqv_py : ∀ x y : U, x.data = true → y.data = true → PyData.eqv x.py y.py = ueq x y
  | .non, y, _, dy => by cases y <;> first | rfl | (simp [U.data] at dy)
  | .bl b, y, _, dy => by cases y <;> first | rfl | (simp [U.data] at dy)
  | .int b, y, _, dy => by cases y <;> first | rfl | (simp [U.data] at dy)
  | .str b, y, _, dy => by
    cases y <;> first | rfl | (simp [U.data] at dy) | skip
    all_goals exact str_beq _ _
  | .tup xs, y, dx, dy => by
    cases y <;> first | rfl | (simp [U.data] at dy; done) | skip
    next ys => simp only [U.py, PyData.eqv, ueq]; simp only [U.data] at dx dy; exact eqvs_py xs ys dx dy
  | .lst xs, y, dx, dy => by
    cases y <;> first | rfl | (simp [U.data] at dy; done) | skip
    next ys => simp only [U.py, PyData.eqv, ueq]; simp only [U.data] at dx dy; exact eqvs_py xs ys dx dy
    next ys => simp only [U.py, PyData.eqv, ueq]; simp only [U.data] at dx dy; exact eqvs_py xs ys dx dy
  | .ls xs, y, dx, dy => by
    cases y <;> first | rfl | (simp [U.data] at dy; done) | skip
    next ys => simp only [U.py, PyData.eqv, ueq]; simp only [U.data] at dx dy; exact eqvs_py xs ys dx dy
    next ys => simp only [U.py, PyData.eqv, ueq]; simp only [U.data] at dx dy; exact eqvs_py xs ys dx dy
  | .ref a, y, dx, _ => by simp [U.data] at dx
  | .dct .., y, dx, _ => by simp [U.data] at dx
theorem eqvs_py : ∀ xs ys : List U, datas xs = true → datas ys = true → PyData.eqvAll (pys xs) (pys ys) = ueqs xs ys
  | [], [], _, _ => rfl
  | [], _ :: _, _, _ => rfl
  | _ :: _, [], _, _ => rfl
  | x :: xs, y :: ys, dx, dy => by
    simp only [datas, Bool.and_eq_true] at dx dy
    simp only [pys, PyData.eqvAll, ueqs, eqv_py x y dx.1 dy.1, eqvs_py xs ys dx.2 dy.2]
end
/-! what is behind a value -/
/-- what is wanted, brought to the layer below -/
def Lq (K : PySem.W.Frag) (cls : Anc) (F : Addr → Prop) (H : Hp) (S : Sto) (R : Post) (Q : VK) : Prop :=
  ∀ u S', R u S' → ∀ F' H' v, Ext F H S F' H' S' → SR K cls F' H' S' → VRel K F' H' v u → Q v H'
theorem Lq.step {R : Post} {Q : VK} (l : Lq K cls F H S R Q) (e : Ext F H S F1 H1 S1) : Lq K cls F1 H1 S1 R Q :=
  fun u S' r F' H' v e' => l u S' r F' H' v (e.trans e')
theorem Lq.now {R : Post} {Q : VK} (l : Lq K cls F H S R Q) (sr : SR K cls F H S) (r : R u S) (h : VRel K F H v u) : Q v H := l u S r F H v .refl sr h
theorem alloc_ok {m : Bool} {R : Post} {Q : VK} (l : Lq K cls F H S R Q) (sr : SR K cls F H S) (a : alloc m xs S R) (r : VRels K F H vs xs) : ∀ p, H p = none → Q (.ref p) (upd H p (.lst vs)) := fun p hp => by
  unfold alloc at a
  cases m with
  | true =>
    rw [if_pos rfl] at a
    obtain ⟨s1, e1, f1⟩ := sr.newM (o := .lst vs) (ob := .lst xs) hp ⟨vs, upd_same, r.ext (sr.fe_new hp)⟩
    exact l _ _ (a p (sr.notS hp)) _ _ _ e1 s1 (.ref p)
  | false =>
    rw [if_neg Bool.false_ne_true] at a
    obtain ⟨s1, e1, f1⟩ := sr.newF (o := .lst vs) hp
    exact l _ _ a _ _ _ e1 s1 (.lst (.inr rfl) upd_same (r.ext f1))
theorem newTup {R : Post} {Q : VK} (l : Lq K cls F H S R Q) (sr : SR K cls F H S) (a : R (.tup xs) S) (r : VRels K F H vs xs) : ∀ p, H p = none → Q (.ref p) (upd H p (.tup vs)) := fun p hp => by
  obtain ⟨s1, e1, f1⟩ := sr.newF (o := .tup vs) hp
  exact l _ _ a _ _ _ e1 s1 (.tup (.inl ⟨.inr rfl, upd_same⟩) (r.ext f1))
theorem lstOf_ok (sr : SR K cls F H S) (h : VRel K F H v u) (e : lstOf S u = some xs) : ∃ a vs, v = .ref a ∧ H a = some (.lst vs) ∧ VRels K F H vs xs := by
  cases h with
  | lst h1 h2 r => simp only [lstOf] at e; cases e; exact ⟨_, _, rfl, h2, r⟩
  | ref a =>
    simp only [lstOf] at e
    cases q : S a with
    | none => rw [q] at e; cases e
    | some o =>
      rw [q] at e
      cases o with
      | lst ys =>
        cases e
        obtain ⟨vs, h1, h2⟩ := sr.sto a _ q
        exact ⟨a, vs, rfl, h1, h2⟩
      | ins c fs => cases e
      | dct kvs => cases e
      | dnk kvs => cases e
  | _ => simp [lstOf] at e
theorem lisOf_ok (sr : SR K cls F H S) (h : VRel K F H v u) (e : lisOf S u = some xs) : ∃ a vs, v = .ref a ∧ SqL K H a vs ∧ VRels K F H vs xs := by
  by_cases hl : ∃ ys, u = .ls ys
  · obtain ⟨ys, rfl⟩ := hl
    cases h with
    | ls h1 r => simp only [lisOf] at e; cases e; exact ⟨_, _, rfl, h1.sq, r⟩
  · have e' : lstOf S u = some xs := by
      cases u <;> first | exact e | (exact absurd ⟨_, rfl⟩ hl)
    obtain ⟨a, vs, h1, h2, h3⟩ := lstOf_ok sr h e'
    exact ⟨a, vs, h1, SqL.of h2, h3⟩
theorem seqOf_ok (sr : SR K cls F H S) (h : VRel K F H v u) (e : seqOf S u = some xs) : ∃ a vs, v = .ref a ∧ (SqL K H a vs ∨ SqT K H a vs) ∧ VRels K F H vs xs := by
  by_cases hl : ∃ ys, u = .tup ys
  · obtain ⟨ys, rfl⟩ := hl
    cases h with
    | tup h1 r => simp only [seqOf] at e; cases e; exact ⟨_, _, rfl, .inr h1.sq, r⟩
  · have e' : lisOf S u = some xs := by
      cases u <;> first | exact e | (exact absurd ⟨_, rfl⟩ hl)
    obtain ⟨a, vs, h1, h2, h3⟩ := lisOf_ok sr h e'
    exact ⟨a, vs, h1, .inl h2, h3⟩
end
/-! ### dicts -/
section
variable {K : PySem.W.Frag} {cls : Anc} {F : Addr → Prop} {H : Hp} {S : Sto} {v w : V} {u x : U}
theorem Sn.data {S : Sto} {x : U} (h : x.data = true) : Sn S x x := fun K cls F H v _ r => r.dp h
theorem KRel.val {vs : List (L2.Key × V)} {us : List (L2.Key × U)} (r : KRel K F H vs us) (q : L2.Key) : (valV vs q).isSome = (getA us q).isSome ∧ ∀ u, getA us q = some u → ∃ v, valV vs q = some v ∧ VRel K F H v u := by
  induction r with
  | nil => exact ⟨rfl, fun u h => by simp [getA] at h⟩
  | @cons f v u vs us h r ih =>
    by_cases e : f = q
    · subst e
      refine ⟨by simp [valV, getA], fun u' h' => ⟨v, by simp [valV], ?_⟩⟩
      have : u = u' := by simpa [getA] using h'
      exact this ▸ h
    · have e1 : valV ((f, v) :: vs) q = valV vs q := by simp [valV, List.find?_cons, e]
      have e2 : getA ((f, u) :: us) q = getA us q := by simp [getA, List.find?_cons, e]
      rw [e1, e2]; exact ih
theorem KRel.any {vs : List (L2.Key × V)} {us : List (L2.Key × U)} (r : KRel K F H vs us) (q : L2.Key) : (vs.any fun kv => decide (kv.1 = q)) = us.any fun kv => decide (kv.1 = q) := by
  induction r with
  | nil => rfl
  | cons h r ih => rw [List.any_cons, List.any_cons, ih]
theorem KRel.put {vs : List (L2.Key × V)} {us : List (L2.Key × U)} (r : KRel K F H vs us) (q : L2.Key) (h : VRel K F H v u) : KRel K F H (putK vs q v) (putA us q u) := by
  unfold putK putA
  rw [r.any q]
  by_cases e : (us.any fun kv => decide (kv.1 = q)) = true
  · rw [if_pos e, if_pos e]
    clear e
    induction r with
    | nil => exact .nil
    | @cons f v' u' vs us h' r ih =>
      rw [List.map_cons, List.map_cons]
      by_cases e : f = q
      · simp only [e, if_true]; exact .cons h ih
      · simp only [e, if_false]; exact .cons h' ih
  · rw [if_neg e, if_neg e]
    clear e
    induction r with
    | nil => exact .cons h .nil
    | cons h' r ih => exact .cons h' ih
theorem KRel.length {vs : List (L2.Key × V)} {us : List (L2.Key × U)} (r : KRel K F H vs us) : vs.length = us.length := by
  induction r with
  | nil => rfl
  | cons h r ih => simp [ih]
theorem KRel.keys {vs : List (L2.Key × V)} {us : List (L2.Key × U)} (r : KRel K F H vs us) : vs.map (·.1) = us.map (·.1) := by
  induction r with
  | nil => rfl
  | cons h r ih => rw [List.map_cons, List.map_cons, ih]
theorem KRel.zip : ∀ {ks : List L2.Key} {vs : List V} {xs : List U}, VRels K F H vs xs → KRel K F H (ks.zip vs) (ks.zip xs)
  | [], _, _, _ => by rw [List.zip_nil_left, List.zip_nil_left]; exact .nil
  | k :: ks, _, _, .nil => .nil
  | k :: ks, _, _, .cons h r => .cons h (KRel.zip r)
theorem dctOf_ok {kvs : List (L2.Key × U)} (sr : SR K cls F H S) (h : VRel K F H v u) (e : dctOf S u = some kvs) : ∃ a vs, v = .ref a ∧ Rd H a (.dK vs) ∧ KRel K F H vs kvs := by
  cases h with
  | dct h1 h2 h3 r => simp only [dctOf] at e; cases e; exact ⟨_, _, rfl, .inr h2, KRel.zip r⟩
  | ref a =>
    simp only [dctOf] at e
    split at e
    · next e' => cases e; obtain ⟨vs, h1, h2⟩ := sr.sto a _ e'; exact ⟨a, vs, rfl, .inl h1, h2⟩
    · cases e
  | _ => simp [dctOf] at e
theorem keyU_ok {q : L2.Key} (h : VRel K F H v u) (e : keyU u = some q) : v = kV q := by
  cases h <;> first | (simp [keyU] at e; done) | skip
  all_goals (simp only [keyU, Option.some.injEq] at e; subst e; rfl)
mutual
theorem nkU_ok : ∀ {v : V} {u : U} {k : NestedKey}, VRel K F H v u → nkU u = some k → NkH K H v k
  | _, _, k, .bl b, e => by simp only [nkU, Option.some.injEq] at e; subst e; exact .bl b
  | _, _, k, .int i, e => by simp only [nkU, Option.some.injEq] at e; subst e; exact .int i
  | _, _, k, .tup h r, e => by
    simp only [nkU, Option.map_eq_some_iff] at e
    obtain ⟨ks, e, rfl⟩ := e
    exact .tup h.sq (nkUs_ok r e)
  | _, _, k, .non, e => by simp [nkU] at e
  | _, _, k, .str s, e => by simp [nkU] at e
  | _, _, k, .lst .., e => by simp [nkU] at e
  | _, _, k, .ls .., e => by simp [nkU] at e
  | _, _, k, .ref a, e => by simp [nkU] at e
  | _, _, k, .dct .., e => by simp [nkU] at e
theorem nkUs_ok : ∀ {vs : List V} {us : List U} {ks : List NestedKey}, VRels K F H vs us → nkUs us = some ks → NkHs K H vs ks
  | _, _, ks, .nil, e => by simp only [nkUs, Option.some.injEq] at e; subst e; exact .nil
  | _, _, ks, .cons h r, e => by
    simp only [nkUs] at e
    split at e
    · next e1 e2 => cases e; exact .cons (nkU_ok h e1) (nkUs_ok r e2)
    · cases e
end
theorem NRel.keys {xs : List Row} {kvs : List (NestedKey × Int)} (r : NRel K F H xs kvs) : DKeys K H xs := by
  induction r with
  | nil => intro x hx; cases hx
  | cons h hk hd _ ih =>
    intro x hx
    rcases List.mem_cons.mp hx with e | hx
    · subst e; exact ⟨nkU_ok h hk, hd⟩
    · exact ih x hx
theorem NRel.length {xs : List Row} {kvs : List (NestedKey × Int)} (r : NRel K F H xs kvs) : xs.length = kvs.length := by
  induction r with
  | nil => rfl
  | cons h hk hd _ ih => simp [ih]
theorem NRel.val {xs : List Row} {kvs : List (NestedKey × Int)} (r : NRel K F H xs kvs) (q : NestedKey) : (valN xs q).isSome = (getA kvs q).isSome ∧ ∀ n, getA kvs q = some n → ∃ t, valN xs q = some (.int n t) := by
  induction r with
  | nil => exact ⟨rfl, fun u h => by simp [getA] at h⟩
  | @cons k b i t u xs kvs h hk hd r ih =>
    by_cases e : k = q
    · subst e
      refine ⟨by simp [valN, atKey, getA], fun n h' => ⟨t, ?_⟩⟩
      have : i = n := by simpa [getA] using h'
      simp [valN, atKey, this]
    · have e1 : valN ((k, b, .int i t) :: xs) q = valN xs q := by simp [valN, atKey, List.find?_cons, e]
      have e2 : getA ((k, i) :: kvs) q = getA kvs q := by simp [getA, List.find?_cons, e]
      rw [e1, e2]; exact ih
theorem NRel.put {xs : List Row} {kvs : List (NestedKey × Int)} (r : NRel K F H xs kvs) {b : Addr} {u : U} {q : NestedKey} (h : VRel K F H (.ref b) u) (hk : nkU u = some q) (hd : q.depth ≤ 8) (n : Int) (t : Tok) : NRel K F H (storedH xs q b (.int n t)) (putA kvs q n) := by
  unfold storedH putA
  have e0 : (atKey xs q).isSome = (kvs.any fun kv => decide (kv.1 = q)) := by
    have := (r.val q).1
    unfold valN at this
    rw [Option.isSome_map] at this
    rw [this]
    unfold getA
    rw [Option.isSome_map]
    clear hd hk h this r
    induction kvs with
    | nil => rfl
    | cons p kvs ih =>
      rw [List.find?_cons, List.any_cons]
      cases decide (p.1 = q) with
      | true => rfl
      | false => exact ih
  rw [e0]
  by_cases e : (kvs.any fun kv => decide (kv.1 = q)) = true
  · rw [if_pos e, if_pos e]
    clear e e0
    induction r with
    | nil => exact .nil
    | @cons k b' i t' u' xs kvs h' hk' hd' r ih =>
      rw [List.map_cons, List.map_cons]
      by_cases e : k = q
      · simp only [putAt, e, if_true]; exact .cons h' (e ▸ hk') (e ▸ hd') ih
      · simp only [putAt, e, if_false]; exact .cons h' hk' hd' ih
  · rw [if_neg e, if_neg e]
    clear e e0
    induction r with
    | nil => exact .cons h hk hd .nil
    | cons h' hk' hd' r ih => exact .cons h' hk' hd' ih
theorem dnkOf_ok {kvs : List (NestedKey × Int)} (sr : SR K cls F H S) (h : VRel K F H v u) (e : dnkOf S u = some kvs) : ∃ a P w xs, v = .ref a ∧ H a = some (DnO P w a xs) ∧ NRel K F H xs kvs := by
  cases h with
  | ref a =>
    simp only [dnkOf] at e
    split at e
    · next e' => cases e; obtain ⟨P, w, xs, h1, h2⟩ := sr.sto a _ e'; exact ⟨a, P, w, xs, rfl, h1, h2⟩
    · cases e
  | _ => simp [dnkOf] at e
end
/-! operators -/
section
variable {X : Cx} {cls : Anc}
/-- f, over deep values, is done by the operation g of the model -/
def OkR (X : Cx) (cls : Anc) (g : Value → Value → Sem Value) (f : U → U → Sto → Post → Prop) : Prop :=
  ∃ r : R2, OpR X g r ∧ ∀ (F : Addr → Prop) (H : Hp) (S : Sto) (v w : V) (x y : U) (R : Post) (Q : VK), SR X.K cls F H S → VRel X.K F H v x → VRel X.K F H w y → f x y S R → Lq X.K cls F H S R Q → r v w H Q
theorem op_mulS : OpR X (binaryOp .Mult) (fun x y H Q => ∃ (a : Str) (k : Int), x = .str a ∧ y = .int k ∧ -(2 ^ 20) < k ∧ k < 2 ^ 20 ∧ a.length * k.toNat ≤ sizeLine ∧ Q (.str (Txt.mul a k)) H) := by
  intro pins s σ H x y v u Q I rx ry h
  obtain ⟨a, k, rfl, rfl, h1, h2, h3, q⟩ := h
  obtain ⟨t, rfl⟩ := rx
  obtain ⟨t', rfl⟩ := ry
  rw [sizeLine_eq] at h3
  refine SB.mul (mulOk_of a.length k.toNat (Nat.le_refl _) (by omega) (by omega) (by omega) h3) fun t' k' => ⟨.str _, H, I.tok _, ⟨_, rfl⟩, q⟩
theorem foldl_rep (a : List Nat) : ∀ (k : Nat) (acc : List Nat), ((List.replicate k a.toArray).foldl (· ++ ·) acc.toArray) = (acc ++ (List.replicate k a).flatten).toArray
  | 0, acc => by simp
  | k + 1, acc => by
    rw [List.replicate_succ, List.foldl_cons, List.replicate_succ, List.flatten_cons]
    have e : acc.toArray ++ a.toArray = (acc ++ a).toArray := by simp
    rw [e, foldl_rep a k, List.append_assoc]
theorem txt_mul (a : List Nat) (k : Int) : Txt.mul ⟨a.toArray⟩ k = ⟨((List.replicate k.toNat a).flatten).toArray⟩ := by
  unfold Txt.mul
  by_cases h1 : k < 1
  · rw [if_pos h1]
    have : k.toNat = 0 := by omega
    rw [this]; rfl
  · rw [if_neg h1]
    by_cases h2 : (k == 1 || (⟨a.toArray⟩ : Str).length == 0) = true
    · rw [if_pos h2]
      rw [Bool.or_eq_true, beq_iff_eq, beq_iff_eq] at h2
      rcases h2 with rfl | h2
      · simp
      · have : a = [] := by
          have : a.toArray.size = 0 := h2
          simpa using this
        subst this
        simp
    · rw [if_neg h2]
      have := foldl_rep a k.toNat []
      simp only [List.nil_append] at this
      rw [← this]
def Bop.op : Bop → Operator
  | .add => .Add | .sub => .Sub | .mul => .Mult | .fdiv => .FloorDiv | .mod => .Mod | .pow => .Pow | .shl => .LShift | .shr => .RShift | .band => .BitAnd
theorem pow4096 : (2 : Nat) ^ 4096 ≤ 2 ^ 4096 := Nat.le_refl _
theorem bop_ok (o : Bop) (m : Bool) : OkR X cls (binaryOp o.op) (bopW o m) := by
  cases o with
  | add =>
    refine ⟨_, op_add.or (op_add_str.or (op_cat.or op_catA)), fun F H S v w x y R Q sr rx ry h l => ?_⟩
    have lst : (∃ xs ys, lstOf S x = some xs ∧ lstOf S y = some ys ∧ xs.length + ys.length ≤ sizeLine ∧ alloc m (xs ++ ys) S R) → rCat v w H Q := by
      rintro ⟨xs, ys, h1, h2, h3, h4⟩
      obtain ⟨a, vs, rfl, ha, ra⟩ := lstOf_ok sr rx h1
      obtain ⟨b, ws, rfl, hb, rb⟩ := lstOf_ok sr ry h2
      refine ⟨a, b, vs, ws, rfl, rfl, ha, hb, by rw [ra.length, rb.length]; exact h3, alloc_ok l sr h4 (ra.append rb)⟩
    cases x with
    | int i => cases y with
      | int j => cases rx; cases ry; exact .inl ⟨i, j, rfl, rfl, l.now sr h (.int _)⟩
      | _ => exact h.elim
    | str a => cases y with
      | str b =>
        cases rx; cases ry
        refine .inr (.inl ⟨_, _, rfl, rfl, ?_, ?_⟩)
        · show a.toArray.size + b.toArray.size ≤ _
          simpa using h.1
        · have e : (⟨a.toArray⟩ ++ ⟨b.toArray⟩ : Str) = ⟨(a ++ b).toArray⟩ := by
            show Str.mk (a.toArray ++ b.toArray) = _
            simp
          rw [e]
          exact l.now sr h.2 (.str _)
      | _ => exact h.elim
    | tup xs => cases y with
      | tup ys =>
        refine .inr (.inr (.inr ?_))
        obtain ⟨h1, h2⟩ := h
        cases rx with
        | @tup a vs _ ta ra =>
        cases ry with
        | @tup b ws _ tb rb =>
        refine ⟨a, b, vs, ws, rfl, rfl, ta.sq, tb.sq, by rw [ra.length, rb.length]; exact h1, fun e => ?_, fun _ e => ?_, fun _ _ => newTup l sr h2 (ra.append rb)⟩
        · subst e
          cases ra
          exact l.now sr h2 (.tup tb rb)
        · subst e
          cases rb
          rw [List.append_nil] at h2
          exact l.now sr h2 (.tup ta ra)
      | _ => exact .inr (.inr (.inl (lst h)))
    | _ => exact .inr (.inr (.inl (lst h)))
  | sub =>
    refine ⟨_, op_sub, fun F H S v w x y R Q sr rx ry h l => ?_⟩
    cases x <;> first | exact h.elim | skip
    cases y <;> first | exact h.elim | skip
    cases rx; cases ry
    exact ⟨_, _, rfl, rfl, l.now sr h (.int _)⟩
  | mul =>
    refine ⟨_, op_mul.or (op_mulW.or (op_mulS.or op_rep)), fun F H S v w x y R Q sr rx ry h l => ?_⟩
    cases y <;> first | (cases x <;> exact h.elim) | skip
    next j =>
    have rep : (∃ xs, lstOf S x = some xs ∧ j < 2 ^ 62 ∧ -(2 ^ 62) < j ∧ xs.length * j.toNat ≤ sizeLine ∧ alloc m (List.replicate j.toNat xs).flatten S R) → rRep v w H Q := by
      rintro ⟨xs, h1, h2, h3, h4, h5⟩
      obtain ⟨a, vs, rfl, ha, ra⟩ := lstOf_ok sr rx h1
      cases ry
      exact ⟨a, j, vs, rfl, rfl, ha, by omega, by omega, by rw [ra.length]; exact h4, alloc_ok l sr h5 (ra.rep _)⟩
    cases x with
    | int i =>
      cases rx; cases ry
      obtain ⟨h1, h2⟩ := h
      rcases h1 with h1 | h1 | ⟨h1, h3⟩
      · exact .inl ⟨i, j, rfl, rfl, .inl h1, l.now sr h2 (.int _)⟩
      · exact .inl ⟨i, j, rfl, rfl, .inr h1, l.now sr h2 (.int _)⟩
      · exact .inr (.inl ⟨i, j, rfl, rfl, wide_mul h1 h3 (by decide) (by decide) (by decide), l.now sr h2 (.int _)⟩)
    | str a =>
      cases rx; cases ry
      obtain ⟨h1, h2, h3, h4⟩ := h
      refine .inr (.inr (.inl ⟨_, _, rfl, rfl, h3, h1, ?_, ?_⟩))
      · show a.toArray.size * _ ≤ _
        simpa using h2
      · rw [txt_mul]
        exact l.now sr h4 (.str _)
    | _ => exact .inr (.inr (.inr (rep h)))
  | fdiv =>
    refine ⟨_, op_fdiv, fun F H S v w x y R Q sr rx ry h l => ?_⟩
    cases x <;> first | exact h.elim | skip
    cases y <;> first | exact h.elim | skip
    cases rx; cases ry
    exact ⟨_, _, rfl, rfl, h.1, l.now sr h.2 (.int _)⟩
  | mod =>
    refine ⟨_, op_mod, fun F H S v w x y R Q sr rx ry h l => ?_⟩
    cases x <;> first | exact h.elim | skip
    cases y <;> first | exact h.elim | skip
    cases rx; cases ry
    exact ⟨_, _, rfl, rfl, h.1, l.now sr h.2 (.int _)⟩
  | pow =>
    refine ⟨_, op_pow, fun F H S v w x y R Q sr rx ry h l => ?_⟩
    cases x <;> first | exact h.elim | skip
    cases y <;> first | exact h.elim | skip
    cases rx; cases ry
    exact ⟨_, _, rfl, rfl, h.1, l.now sr h.2 (.int _)⟩
  | shl =>
    refine ⟨_, op_shl, fun F H S v w x y R Q sr rx ry h l => ?_⟩
    cases x <;> first | exact h.elim | skip
    cases y <;> first | exact h.elim | skip
    cases rx; cases ry
    exact ⟨_, _, rfl, rfl, h.1, l.now sr h.2 (.int _)⟩
  | shr =>
    refine ⟨_, op_shr, fun F H S v w x y R Q sr rx ry h l => ?_⟩
    cases x <;> first | exact h.elim | skip
    cases y <;> first | exact h.elim | skip
    cases rx; cases ry
    exact ⟨_, _, rfl, rfl, h.1, l.now sr h.2 (.int _)⟩
  | band =>
    refine ⟨_, op_and, fun F H S v w x y R Q sr rx ry h l => ?_⟩
    cases x <;> first | exact h.elim | skip
    cases y <;> first | exact h.elim | skip
    cases rx; cases ry
    exact ⟨_, _, rfl, rfl, l.now sr h (.int _)⟩
def Cop.op : Cop → CmpOp
  | .eq => .Eq | .ne => .NotEq | .lt => .Lt | .le => .LtE | .gt => .Gt | .ge => .GtE | .isin => .In | .notin => .NotIn | .isN => .Is | .notN => .IsNot
/-- a comparison's answer goes on -/
def OkB (X : Cx) (cls : Anc) (g : Value → Value → Sem Value) (f : U → U → Sto → (Bool → Prop) → Prop) : Prop :=
  ∃ r : R2, OpR X g r ∧ ∀ (F : Addr → Prop) (H : Hp) (S : Sto) (v w : V) (x y : U) (k : Bool → Prop) (Q : VK), SR X.K cls F H S → VRel X.K F H v x → VRel X.K F H w y → f x y S k → (∀ b, k b → Q (.bl b) H) → r v w H Q
theorem flat_V {F : Addr → Prop} {H : Hp} {v : V} {u : U} (r : VRel X.K F H v u) (f : u.flat = true) : flatV v = true := by
  cases r <;> first | rfl | (simp [U.flat] at f)
theorem eqV_ueq {F : Addr → Prop} {H : Hp} {v w : V} {x y : U} (r : VRel X.K F H v x) (r' : VRel X.K F H w y) (f : x.flat = true) (f' : y.flat = true) : eqV v w = ueq x y := by
  cases r <;> first | (simp [U.flat] at f; done) | skip
  all_goals (cases r' <;> first | (simp [U.flat] at f'; done) | rfl | exact str_beq _ _)
theorem flats_V {F : Addr → Prop} {H : Hp} : ∀ {vs : List V} {us : List U}, VRels X.K F H vs us → us.all U.flat = true → vs.all flatV = true
  | _, _, .nil, _ => rfl
  | _, _, .cons h r, f => by
    rw [List.all_cons, Bool.and_eq_true] at f
    rw [List.all_cons, flat_V h f.1, flats_V r f.2]; rfl
theorem inV_any {F : Addr → Prop} {H : Hp} {v : V} {x : U} (r : VRel X.K F H v x) (f : x.flat = true) : ∀ {vs : List V} {us : List U}, VRels X.K F H vs us → us.all U.flat = true → (vs.any fun y => eqV y v) = us.any fun z => ueq z x
  | _, _, .nil, _ => rfl
  | _, _, .cons h t, fs => by
    rw [List.all_cons, Bool.and_eq_true] at fs
    rw [List.any_cons, List.any_cons, eqV_ueq h r fs.1 f, inV_any r f t fs.2]
theorem in_ok (neg : Bool) {F : Addr → Prop} {H : Hp} {S : Sto} {v w : V} {x y : U} {k : Bool → Prop} {Q : VK} (sr : SR X.K cls F H S) (rx : VRel X.K F H v x) (ry : VRel X.K F H w y) (h : inW x y S fun b => k (if neg then !b else b)) (l : ∀ b, k b → Q (.bl b) H) :
    rIn X.K neg v w H Q ∨ (∃ i j, v = .str i ∧ w = .str j ∧ Q (.bl (if neg then !(!(Builtin.Str.occurrences j i 0 j.length 1).isEmpty) else !(Builtin.Str.occurrences j i 0 j.length 1).isEmpty)) H) ∨ rInK neg v w H Q ∨ rInN X.K neg v w H Q := by
  have gen : (∃ ys, seqOf S y = some ys ∧ x.flat = true ∧ ys.all U.flat = true ∧ k (if neg then !(ys.any fun z => ueq z x) else ys.any fun z => ueq z x)) → rIn X.K neg v w H Q := by
    rintro ⟨ys, h1, h2, h3, h4⟩
    obtain ⟨a, vs, rfl, ha, ra⟩ := seqOf_ok sr ry h1
    refine ⟨a, vs, rfl, ha, flat_V rx h2, flats_V ra h3, l _ ?_⟩
    unfold inV
    rw [inV_any rx h2 ra h3]
    exact h4
  have dk : (∃ kvs q, dctOf S y = some kvs ∧ keyU x = some q ∧ k (if neg then !(getA kvs q).isSome else (getA kvs q).isSome)) → rInK neg v w H Q := by
    rintro ⟨kvs, q, h1, h2, h3⟩
    obtain ⟨a, vs, rfl, ha, ra⟩ := dctOf_ok sr ry h1
    refine ⟨a, vs, q, keyU_ok rx h2, rfl, ha, l _ ?_⟩
    rw [(ra.val q).1]; exact h3
  cases y with
  | str t =>
    obtain ⟨c, rfl, h⟩ := h
    cases rx; cases ry
    refine .inr (.inl ⟨_, _, rfl, rfl, l _ ?_⟩)
    rw [show (⟨[c].toArray⟩ : Str) = ⟨#[c]⟩ from rfl, StrLaws.found_one]
    exact h
  | dct ks xs =>
    obtain ⟨q, h1, h2⟩ := h
    exact .inr (.inr (.inl (dk ⟨_, q, rfl, h1, h2⟩)))
  | ref a =>
    simp only [inW] at h
    split at h
    · next ys e => exact .inl (gen ⟨ys, by simp only [seqOf, lisOf, lstOf, e], h.1, h.2.1, h.2.2⟩)
    · next kvs e =>
      obtain ⟨q, h1, h2⟩ := h
      exact .inr (.inr (.inl (dk ⟨_, q, by simp only [dctOf, e], h1, h2⟩)))
    · next kvs e =>
      obtain ⟨t, q, rfl, h1, h2, h3⟩ := h
      obtain ⟨a, P, w', xs, rfl, ha, ra⟩ := dnkOf_ok (kvs := kvs) sr ry (by simp only [dnkOf, e])
      cases rx with
      | @tup b vs _ tb rb =>
      refine .inr (.inr (.inr ⟨b, a, P, w', xs, q, rfl, rfl, ha, ra.keys, nkU_ok (.tup tb rb) h1, h2, l _ ?_⟩))
      rw [(ra.val q).1]; exact h3
    · exact h.elim
  | _ => exact .inl (gen h)
theorem eq_ok {F : Addr → Prop} {H : Hp} {S : Sto} {v w : V} {x y : U} {k : Bool → Prop} {Q : VK} (sr : SR X.K cls F H S) (rx : VRel X.K F H v x) (ry : VRel X.K F H w y) (h : eqW x y S k) (l : ∀ b, k b → Q (.bl b) H) :
    rEq v w H Q ∨ rEqM X.K false v w H Q := by
  have gen : (∃ x' y', Sn S x x' ∧ Sn S y y' ∧ eqable x' ∧ eqable y' ∧ k ((ueq x' y'))) → rEqM X.K false v w H Q := fun ⟨x', y', a1, a2, h1, h2, h3⟩ =>
    ⟨_, _, a1 _ _ _ _ _ sr rx, a2 _ _ _ _ _ sr ry, data_lay _ h1.1, data_lay _ h2.1, by rw [dep_py]; exact h1.2, l _ (by rw [eqv_py x' y' h1.1 h2.1]; exact h3)⟩
  cases x with
  | int i => cases y with
    | int j => cases rx; cases ry; exact .inl ⟨rfl, by rw [dec_int]; exact l _ h⟩
    | _ => exact .inr (gen h)
  | str i => cases y with
    | str j => cases rx; cases ry; exact .inl ⟨rfl, by rw [dec_str, str_beq]; exact l _ h⟩
    | _ => exact .inr (gen h)
  | bl i => cases y with
    | bl j => cases rx; cases ry; exact .inl ⟨rfl, by rw [dec_bl]; exact l _ h⟩
    | _ => exact .inr (gen h)
  | non => cases y with
    | non => cases rx; cases ry; exact .inl ⟨rfl, l _ h⟩
    | _ => exact .inr (gen h)
  | _ => exact .inr (gen h)
theorem ne_ok {F : Addr → Prop} {H : Hp} {S : Sto} {v w : V} {x y : U} {k : Bool → Prop} {Q : VK} (sr : SR X.K cls F H S) (rx : VRel X.K F H v x) (ry : VRel X.K F H w y) (h : eqW x y S fun b => k (!b)) (l : ∀ b, k b → Q (.bl b) H) :
    rNe v w H Q ∨ rEqM X.K true v w H Q := by
  have gen : (∃ x' y', Sn S x x' ∧ Sn S y y' ∧ eqable x' ∧ eqable y' ∧ k (!(ueq x' y'))) → rEqM X.K true v w H Q := fun ⟨x', y', a1, a2, h1, h2, h3⟩ =>
    ⟨_, _, a1 _ _ _ _ _ sr rx, a2 _ _ _ _ _ sr ry, data_lay _ h1.1, data_lay _ h2.1, by rw [dep_py]; exact h1.2, l _ (by rw [eqv_py x' y' h1.1 h2.1]; exact h3)⟩
  cases x with
  | int i => cases y with
    | int j => cases rx; cases ry; exact .inl ⟨rfl, by rw [dec_int]; exact l _ h⟩
    | _ => exact .inr (gen h)
  | str i => cases y with
    | str j => cases rx; cases ry; exact .inl ⟨rfl, by rw [dec_str, str_beq]; exact l _ h⟩
    | _ => exact .inr (gen h)
  | bl i => cases y with
    | bl j => cases rx; cases ry; exact .inl ⟨rfl, by rw [dec_bl]; exact l _ h⟩
    | _ => exact .inr (gen h)
  | non => cases y with
    | non => cases rx; cases ry; exact .inl ⟨rfl, l _ h⟩
    | _ => exact .inr (gen h)
  | _ => exact .inr (gen h)
theorem cop_ok (hu : X.A.units + 128 < cLine) (o : Cop) : OkB X cls (compareOp o.op) (copW o) := by
  cases o with
  | eq => exact ⟨_, op_eq.or (op_eqM hu), fun F H S v w x y k Q sr rx ry h l => eq_ok (S := S) sr rx ry h l⟩
  | ne => exact ⟨_, op_ne.or (op_neM hu), fun F H S v w x y k Q sr rx ry h l => ne_ok (S := S) sr rx ry h l⟩
  | lt =>
    refine ⟨_, op_lt.or op_lt_str, fun F H S v w x y k Q sr rx ry h l => ?_⟩
    cases x <;> first | exact h.elim | skip
    · cases y <;> first | exact h.elim | skip
      cases rx; cases ry
      exact .inl ⟨_, _, rfl, rfl, l _ h⟩
    · cases y <;> first | exact h.elim | skip
      cases rx; cases ry
      exact .inr ⟨_, _, rfl, rfl, l _ h⟩
  | le =>
    refine ⟨_, op_le.or op_le_str, fun F H S v w x y k Q sr rx ry h l => ?_⟩
    cases x <;> first | exact h.elim | skip
    · cases y <;> first | exact h.elim | skip
      cases rx; cases ry
      exact .inl ⟨_, _, rfl, rfl, l _ h⟩
    · cases y <;> first | exact h.elim | skip
      cases rx; cases ry
      exact .inr ⟨_, _, rfl, rfl, l _ h⟩
  | gt =>
    refine ⟨_, op_gt, fun F H S v w x y k Q sr rx ry h l => ?_⟩
    cases x <;> first | exact h.elim | skip
    cases y <;> first | exact h.elim | skip
    cases rx; cases ry
    exact ⟨_, _, rfl, rfl, l _ h⟩
  | ge =>
    refine ⟨_, op_ge, fun F H S v w x y k Q sr rx ry h l => ?_⟩
    cases x <;> first | exact h.elim | skip
    cases y <;> first | exact h.elim | skip
    cases rx; cases ry
    exact ⟨_, _, rfl, rfl, l _ h⟩
  | isin => exact ⟨_, op_in_seq.or (op_in_str.or ((op_inK (by omega)).or (op_inN (by omega)))), fun F H S v w x y k Q sr rx ry h l => in_ok false sr rx ry h l⟩
  | notin => exact ⟨_, op_notIn_seq.or (op_notIn_str.or ((op_notInK (by omega)).or (op_notInN (by omega)))), fun F H S v w x y k Q sr rx ry h l => in_ok true sr rx ry h l⟩
  | isN =>
    refine ⟨_, op_isN.or op_isBl, fun F H S v w x y k Q sr rx ry h l => ?_⟩
    cases y <;> first | (cases x <;> exact h.elim) | skip
    · cases ry
      refine .inl ⟨rfl, ?_⟩
      cases rx <;> first | exact l _ h | skip
    · cases x <;> first | exact h.elim | skip
      cases rx; cases ry
      refine .inr ⟨_, _, rfl, rfl, l _ ?_⟩
      rename_i p q; cases p <;> cases q <;> exact h
  | notN =>
    refine ⟨_, op_notN.or op_notBl, fun F H S v w x y k Q sr rx ry h l => ?_⟩
    cases y <;> first | (cases x <;> exact h.elim) | skip
    · cases ry
      refine .inl ⟨rfl, ?_⟩
      cases rx <;> first | exact l _ h | skip
    · cases x <;> first | exact h.elim | skip
      cases rx; cases ry
      refine .inr ⟨_, _, rfl, rfl, l _ ?_⟩
      rename_i p q; cases p <;> cases q <;> exact h
end
end Mm
/-! MmD: subscripts, built-ins, methods, by values -/
namespace Mm
open PySem PySem.Spec PyProof.Rows L2
section
variable {X : Cx} {cls : Anc}
theorem VRels.atI {K : PySem.W.Frag} {F : Addr → Prop} {H : Hp} {vs : List V} {us : List U} {i : Int} {u : U} (r : VRels K F H vs us) (h : L2.atI us i = some u) : ∃ v, L2.atI vs i = some v ∧ VRel K F H v u := by
  unfold L2.atI at h ⊢
  rw [r.length]
  cases e : ixN us.length i with
  | none => rw [e] at h; cases h
  | some j =>
    rw [e] at h
    exact r.get h
theorem ix_ok (hu : X.A.units + 9 < cLine) : ∃ r : R2, IxR X r ∧ ∀ (F : Addr → Prop) (H : Hp) (S : Sto) (v w : V) (x y : U) (R : Post) (Q : VK), SR X.K cls F H S → VRel X.K F H v x → VRel X.K F H w y → idxW x y S R → Lq X.K cls F H S R Q → r v w H Q := by
  refine ⟨_, ix_seq.or ((ix_K (by omega)).or (ix_N hu)), fun F H S v w x y R Q sr rx ry h l => ?_⟩
  have dk : ∀ s, (∃ kvs u, dctOf S x = some kvs ∧ getA kvs (.inr ⟨s.toArray⟩) = some u ∧ R u S) → VRel X.K F H w (.str s) → rIxK v w H Q := by
    rintro s ⟨kvs, u, h1, h2, h3⟩ ry
    obtain ⟨a, vs, rfl, ha, ra⟩ := dctOf_ok sr rx h1
    obtain ⟨z, hz, rz⟩ := (ra.val _).2 _ h2
    cases ry
    exact ⟨a, vs, _, z, rfl, rfl, ha, hz, l.now sr h3 rz⟩
  have dn : ∀ t, (∃ kvs q n, dnkOf S x = some kvs ∧ nkU (.tup t) = some q ∧ q.depth ≤ 8 ∧ getA kvs q = some n ∧ R (.int n) S) → VRel X.K F H w (.tup t) → rIxN X.K v w H Q := by
    rintro t ⟨kvs, q, n, h1, h2, h3, h4, h5⟩ ry
    obtain ⟨a, P, w', xs, rfl, ha, ra⟩ := dnkOf_ok sr rx h1
    obtain ⟨tk, hz⟩ := (ra.val _).2 _ h4
    have nk := nkU_ok ry h2
    cases ry with
    | @tup b vs _ tb rb => exact ⟨b, a, P, w', xs, q, n, tk, rfl, rfl, ha, ra.keys, nk, h3, hz, l.now sr h5 (.int n)⟩
  cases y <;> first | (cases x <;> exact h.elim) | skip
  rotate_left
  · next s =>
    refine .inr (.inl (dk s ?_ ry))
    cases x <;> exact h
  · next t =>
    refine .inr (.inr (dn t ?_ ry))
    cases x <;> exact h
  refine .inl ?_
  next i =>
  have gen : (∃ xs u, seqOf S x = some xs ∧ L2.atI xs i = some u ∧ R u S) → rIx X.K v w H Q := by
    rintro ⟨xs, u, h1, h2, h3⟩
    obtain ⟨a, vs, rfl, ha, ra⟩ := seqOf_ok sr rx h1
    obtain ⟨z, hz, rz⟩ := ra.atI h2
    cases ry
    rcases ha with ha | ha
    · exact .inl ⟨a, vs, i, z, rfl, rfl, ha, hz, l.now sr h3 rz⟩
    · exact .inr (.inl ⟨a, vs, i, z, rfl, rfl, ha, hz, l.now sr h3 rz⟩)
  cases x with
  | str s =>
    cases rx; cases ry
    obtain ⟨h1, c, h2, h3⟩ := h
    exact .inr (.inr ⟨_, i, c, rfl, rfl, by show s.toArray.size ≤ _; simpa using h1, by simpa using h2, l.now sr h3 (.str [c])⟩)
  | _ => exact gen h
theorem cutU_V (vs : List V) (lo hi : Option Int) : cutV vs lo hi = cutU vs lo hi := rfl
theorem VRels.cut {K : PySem.W.Frag} {F : Addr → Prop} {H : Hp} {vs : List V} {us : List U} (lo hi : Option Int) (r : VRels K F H vs us) : VRels K F H (cutU vs lo hi) (cutU us lo hi) := by
  unfold cutU
  rw [r.length]
  exact (r.drop _).take _
theorem sl_ok (m : Bool) : ∃ r : V → Option Int → Option Int → Hp → VK → Prop, SlR X r ∧ ∀ (F : Addr → Prop) (H : Hp) (S : Sto) (v : V) (x : U) (lo hi : Option Int) (R : Post) (Q : VK), SR X.K cls F H S → VRel X.K F H v x → slcW m x lo hi S R → Lq X.K cls F H S R Q → r v lo hi H Q := by
  refine ⟨_, sl_str.or (sl_list.or sl_tupA), fun F H S v x lo hi R Q sr rx h l => ?_⟩
  have gen : (∃ xs, lisOf S x = some xs ∧ alloc m (cutU xs lo hi) S R) → rSlL X.K v lo hi H Q := by
    rintro ⟨xs, h1, h2⟩
    obtain ⟨a, vs, rfl, ha, ra⟩ := lisOf_ok sr rx h1
    exact ⟨a, vs, rfl, ha, alloc_ok l sr h2 (ra.cut lo hi)⟩
  cases x with
  | str s =>
    cases rx
    refine .inl ⟨_, rfl, by show s.toArray.size ≤ _; simpa using h.1, ?_⟩
    have e : cutS ⟨s.toArray⟩ lo hi = ⟨(cutU s lo hi).toArray⟩ := by
      unfold cutS cutU
      have : (⟨s.toArray⟩ : Str).length = s.length := by show s.toArray.size = _; simp
      rw [this]
    rw [e]
    exact l.now sr h.2 (.str _)
  | tup xs =>
    cases rx with
    | @tup a vs _ ta ra =>
      refine .inr (.inr ⟨a, vs, rfl, ta.sq, fun e => ?_, fun _ => newTup l sr h (ra.cut lo hi)⟩)
      have : cutU xs lo hi = xs := by
        unfold cutU
        rw [← ra.length, e.1, e.2]
        simp [ra.length]
      have h' : R (.tup (cutU xs lo hi)) S := h
      rw [this] at h'
      exact l.now sr h' (.tup ta ra)
  | _ => exact .inr (.inl (gen h))
/-- a built-in call by values -/
def Blt.nm : Blt → Str
  | .len => "len" | .int => "int" | .max2 => "max" | .min2 => "min" | .all => "all" | .any => "any" | .list _ => "list" | .tuple => "tuple" | .abs => "abs" | .sorti _ => "sorted" | .sortd _ => "sorted"
def Blt.val : Blt → Value
  | .len => .builtin "len" | .int => .type "int" | .max2 => .builtin "max" | .min2 => .builtin "min" | .all => .builtin "all" | .any => .builtin "any" | .list _ => .type "list" | .tuple => .type "tuple" | .abs => .builtin "abs" | .sorti _ => .builtin "sorted" | .sortd _ => .builtin "sorted"
theorem boolsOf_ok {K : PySem.W.Frag} {F : Addr → Prop} {H : Hp} : ∀ {vs : List V} {us : List U} {bs : List Bool}, VRels K F H vs us → boolsOf us = some bs → vs = bs.map V.bl
  | _, _, _, .nil, e => by simp only [boolsOf] at e; cases e; rfl
  | _, _, _, .cons h r, e => by
    cases h <;> simp only [boolsOf] at e <;> first | (cases e; done) | skip
    cases q : boolsOf _ with
    | none => rw [q] at e; cases e
    | some bs => rw [q] at e; cases e; rw [boolsOf_ok r q]; rfl
theorem strsOf_ok {K : PySem.W.Frag} {F : Addr → Prop} {H : Hp} : ∀ {vs : List V} {us : List U} {bs : List (List Nat)}, VRels K F H vs us → strsOf us = some bs → vs = (bs.map fun s => (⟨s.toArray⟩ : Str)).map V.str
  | _, _, _, .nil, e => by simp only [strsOf] at e; cases e; rfl
  | _, _, _, .cons h r, e => by
    cases h <;> simp only [strsOf] at e <;> first | (cases e; done) | skip
    cases q : strsOf _ with
    | none => rw [q] at e; cases e
    | some bs => rw [q] at e; cases e; rw [strsOf_ok r q]; rfl
theorem intsOf_ok {K : PySem.W.Frag} {F : Addr → Prop} {H : Hp} : ∀ {vs : List V} {us : List U} {bs : List Int}, VRels K F H vs us → intsOf us = some bs → vs = bs.map V.int
  | _, _, _, .nil, e => by simp only [intsOf] at e; cases e; rfl
  | _, _, _, .cons h r, e => by
    cases h <;> simp only [intsOf] at e <;> first | (cases e; done) | skip
    cases q : intsOf _ with
    | none => rw [q] at e; cases e
    | some bs => rw [q] at e; cases e; rw [intsOf_ok r q]; rfl
theorem vrels_ints {K : PySem.W.Frag} {F : Addr → Prop} {H : Hp} : ∀ ns : List Int, VRels K F H (ns.map V.int) (ns.map U.int)
  | [] => .nil
  | n :: ns => .cons (.int n) (vrels_ints ns)
theorem vrels_strs {K : PySem.W.Frag} {F : Addr → Prop} {H : Hp} : ∀ ns : List (List Nat), VRels K F H (ns.map fun t => V.str ⟨t.toArray⟩) (ns.map U.str)
  | [] => .nil
  | n :: ns => .cons (.str n) (vrels_strs ns)
theorem VRels.one {K : PySem.W.Frag} {F : Addr → Prop} {H : Hp} {vs : List V} {u : U} (r : VRels K F H vs [u]) : ∃ v, vs = [v] ∧ VRel K F H v u := by
  cases r with
  | cons h r => cases r; exact ⟨_, rfl, h⟩
theorem VRels.two {K : PySem.W.Frag} {F : Addr → Prop} {H : Hp} {vs : List V} {u w : U} (r : VRels K F H vs [u, w]) : ∃ v z, vs = [v, z] ∧ VRel K F H v u ∧ VRel K F H z w := by
  cases r with
  | cons h r =>
    obtain ⟨z, rfl, h'⟩ := r.one
    exact ⟨_, z, rfl, h, h'⟩
def LenD (K : PySem.W.Frag) (v : V) (H : Hp) (n : Nat) : Prop := LenV K v H n ∨ (∃ a kvs, v = .ref a ∧ Rd H a (.dK kvs) ∧ n = kvs.length) ∨ ∃ a P w xs, v = .ref a ∧ H a = some (DnO P w a xs) ∧ DKeys K H xs ∧ xs.length ≤ sizeLine ∧ n = xs.length
theorem call_lenA : CallR X (.builtin "len") (fun vs H Q => ∃ v n, vs = [v] ∧ LenD X.K v H n ∧ Q (.int n) H) := by
  intro pins s σ H xs us Q I r h
  obtain ⟨v, n, rfl, hl, q⟩ := h
  rcases hl with hl | ⟨a, kvs, rfl, ha, rfl⟩ | ⟨a, P, w, xs, rfl, ha, hk, hz, rfl⟩
  · exact call_len pins s σ H _ us Q I r ⟨v, n, rfl, hl, q⟩
  · obtain ⟨u, rfl, ru⟩ := vals1 r
    cases ru
    exact d_len I ha fun t s' I' => ⟨.int kvs.length, H, I', ⟨t, rfl⟩, q⟩
  · exact call_lenN pins s σ H _ us Q I r ⟨a, P, w, xs, rfl, ha, hk, hz, q⟩
theorem len_ok {F : Addr → Prop} {H : Hp} {S : Sto} {v : V} {x : U} {n : Nat} (sr : SR X.K cls F H S) (rx : VRel X.K F H v x) (h : lenOf S x = some n) : LenD X.K v H n := by
  have gen : (seqOf S x).map List.length = some n → LenV X.K v H n := by
    intro e
    cases q : seqOf S x with
    | none => rw [q] at e; cases e
    | some xs =>
      rw [q] at e; cases e
      obtain ⟨a, vs, rfl, ha, ra⟩ := seqOf_ok sr rx q
      rcases ha with ha | ha
      · exact .inl ⟨vs, ha, ra.length.symm⟩
      · exact .inr ⟨vs, ha, ra.length.symm⟩
  cases x with
  | str s =>
    cases rx
    simp only [lenOf] at h
    split at h
    · next hz => cases h; exact .inl ⟨by show s.toArray.size ≤ _; simpa using hz, by show _ = s.toArray.size; simp⟩
    · cases h
  | dct ks xs =>
    simp only [lenOf] at h
    cases h
    cases rx with
    | @dct a _ vs _ h1 h2 h3 r => exact .inr (.inl ⟨a, _, rfl, .inr h2, by rw [List.length_zip, ← h3, Nat.min_self]⟩)
  | ref a =>
    simp only [lenOf] at h
    split at h
    · next ys e => exact .inl (gen (by simp only [seqOf, lisOf, lstOf, e]; exact h))
    · next kvs e =>
      cases h
      obtain ⟨b, vs, rfl, hb, rb⟩ := dctOf_ok (kvs := kvs) sr rx (by simp only [dctOf, e])
      exact .inr (.inl ⟨b, vs, rfl, hb, rb.length.symm⟩)
    · next kvs e =>
      split at h
      · next hz =>
        cases h
        obtain ⟨b, P, w', xs, rfl, hb, rb⟩ := dnkOf_ok (kvs := kvs) sr rx (by simp only [dnkOf, e])
        exact .inr (.inr ⟨b, P, w', xs, rfl, hb, rb.keys, by rw [rb.length]; exact hz, rb.length.symm⟩)
      · cases h
    · cases h
  | _ => exact .inl (gen h)
theorem blt_ok (hc : X.calm = true) (b : Blt) : ∃ r : List V → Hp → VK → Prop, CallR X b.val r ∧ ∀ (F : Addr → Prop) (H : Hp) (S : Sto) (vs : List V) (us : List U) (R : Post) (Q : VK), SR X.K cls F H S → VRels X.K F H vs us → bltW b us S R → Lq X.K cls F H S R Q → r vs H Q := by
  cases b with
  | len =>
    refine ⟨_, call_lenA, fun F H S vs us R Q sr rs h l => ?_⟩
    match us, h with
    | [x], ⟨n, h1, h2⟩ =>
      obtain ⟨v, rfl, rx⟩ := rs.one
      exact ⟨v, n, rfl, len_ok sr rx h1, l.now sr h2 (.int _)⟩
  | int =>
    refine ⟨_, call_int1, fun F H S vs us R Q sr rs h l => ?_⟩
    match us, h with
    | [.int i], h =>
      obtain ⟨v, rfl, rx⟩ := rs.one
      cases rx
      exact .inl ⟨i, rfl, l.now sr h (.int _)⟩
    | [.bl i], h =>
      obtain ⟨v, rfl, rx⟩ := rs.one
      cases rx
      exact .inr ⟨i, rfl, l.now sr h (.int _)⟩
  | max2 =>
    refine ⟨_, call_max2 hc, fun F H S vs us R Q sr rs h l => ?_⟩
    match us, h with
    | [.int i, .int j], h =>
      obtain ⟨v, w, rfl, rx, ry⟩ := rs.two
      cases rx; cases ry
      exact ⟨i, j, rfl, l.now sr h (.int _)⟩
  | min2 =>
    refine ⟨_, call_min2 hc, fun F H S vs us R Q sr rs h l => ?_⟩
    match us, h with
    | [.int i, .int j], h =>
      obtain ⟨v, w, rfl, rx, ry⟩ := rs.two
      cases rx; cases ry
      exact ⟨i, j, rfl, l.now sr h (.int _)⟩
  | all =>
    refine ⟨_, cr_all hc, fun F H S vs us R Q sr rs h l => ?_⟩
    match us, h with
    | [x], ⟨xs, bs, h1, h2, h3⟩ =>
      obtain ⟨v, rfl, rx⟩ := rs.one
      obtain ⟨a, vs, rfl, ha, ra⟩ := lisOf_ok sr rx h1
      rw [boolsOf_ok ra h2] at ha
      exact ⟨a, bs, rfl, ha, l.now sr h3 (.bl _)⟩
  | any =>
    refine ⟨_, cr_any hc, fun F H S vs us R Q sr rs h l => ?_⟩
    match us, h with
    | [x], ⟨xs, bs, h1, h2, h3⟩ =>
      obtain ⟨v, rfl, rx⟩ := rs.one
      obtain ⟨a, vs, rfl, ha, ra⟩ := lisOf_ok sr rx h1
      rw [boolsOf_ok ra h2] at ha
      exact ⟨a, bs, rfl, ha, l.now sr h3 (.bl _)⟩
  | list m =>
    refine ⟨_, call_list_of, fun F H S vs us R Q sr rs h l => ?_⟩
    match us, h with
    | [x], ⟨xs, h1, h2⟩ =>
      obtain ⟨v, rfl, rx⟩ := rs.one
      obtain ⟨a, vs, rfl, ha, ra⟩ := seqOf_ok sr rx h1
      exact ⟨a, vs, rfl, ha, alloc_ok l sr h2 ra⟩
  | tuple =>
    refine ⟨_, call_tuple_of, fun F H S vs us R Q sr rs h l => ?_⟩
    have gen : ∀ x, (∃ xs, lisOf S x = some xs ∧ R (.tup xs) S) → ∀ v, VRel X.K F H v x → ∃ p ys, [v] = [V.ref p] ∧ ((SqL X.K H p ys ∧ ∀ l, H l = none → Q (.ref l) (upd H l (.tup ys))) ∨ (SqT X.K H p ys ∧ Q (.ref p) H)) := by
      rintro x ⟨xs, h1, h2⟩ v rx
      obtain ⟨a, vs, rfl, ha, ra⟩ := lisOf_ok sr rx h1
      exact ⟨a, vs, rfl, .inl ⟨ha, newTup l sr h2 ra⟩⟩
    match us, h with
    | [.tup xs], h =>
      obtain ⟨v, rfl, rx⟩ := rs.one
      cases rx with
      | tup h1 r => exact ⟨_, _, rfl, .inr ⟨h1.sq, l.now sr h (.tup h1 r)⟩⟩
    | [.non], h => obtain ⟨v, rfl, rx⟩ := rs.one; exact gen _ h v rx
    | [.bl _], h => obtain ⟨v, rfl, rx⟩ := rs.one; exact gen _ h v rx
    | [.int _], h => obtain ⟨v, rfl, rx⟩ := rs.one; exact gen _ h v rx
    | [.str _], h => obtain ⟨v, rfl, rx⟩ := rs.one; exact gen _ h v rx
    | [.lst _], h => obtain ⟨v, rfl, rx⟩ := rs.one; exact gen _ h v rx
    | [.ls _], h => obtain ⟨v, rfl, rx⟩ := rs.one; exact gen _ h v rx
    | [.ref _], h => obtain ⟨v, rfl, rx⟩ := rs.one; exact gen _ h v rx
    | [.dct _ _], h => obtain ⟨v, rfl, rx⟩ := rs.one; exact gen _ h v rx
  | abs =>
    refine ⟨_, call_abs, fun F H S vs us R Q sr rs h l => ?_⟩
    match us, h with
    | [.int i], h =>
      obtain ⟨v, rfl, rx⟩ := rs.one
      cases rx
      exact ⟨i, rfl, l.now sr h (.int _)⟩
  | sorti m =>
    refine ⟨_, cr_sortedI, fun F H S vs us R Q sr rs h l => ?_⟩
    match us, h with
    | [x], ⟨xs, ns, h1, h2, h3⟩ =>
      obtain ⟨v, rfl, rx⟩ := rs.one
      obtain ⟨a, vs, rfl, ha, ra⟩ := lisOf_ok sr rx h1
      rw [intsOf_ok ra h2] at ha
      exact ⟨a, ns, rfl, ha, fun ns' p hp hw hn => alloc_ok l sr (h3 ns' hp hw) (vrels_ints ns') p hn⟩
  | sortd m =>
    refine ⟨_, call_sortedD hc, fun F H S vs us R Q sr rs h l => ?_⟩
    match us, h with
    | [x], ⟨kvs, h0, ts, h1, h2, h3⟩ =>
      obtain ⟨v, rfl, rx⟩ := rs.one
      obtain ⟨a, vs, rfl, k2, kr⟩ := dctOf_ok sr rx h0
      refine ⟨a, vs, ts.map fun t => (⟨t.toArray⟩ : Str), rfl, k2, ?_, by simpa using h2, fun ys p hp hw hn => ?_⟩
      · rw [kr.keys, h1, List.map_map]; rfl
      · have e : ys = (ys.map fun s => s.cps.toList).map fun t => (⟨t.toArray⟩ : Str) := by
          rw [List.map_map]
          exact (List.map_id ys).symm.trans (List.map_congr_left fun s _ => by simp)
        have hp2 : (ys.map fun s => s.cps.toList).Perm ts := by
          have := hp.map fun s : Str => s.cps.toList
          rw [List.map_map] at this
          refine this.trans (List.Perm.of_eq ?_)
          exact (List.map_congr_left fun t _ => by simp).trans (List.map_id ts)
        have k := alloc_ok l sr (h3 _ hp2 (by rw [← e]; exact hw)) (vrels_strs _) p hn
        rw [e, List.map_map]
        exact k
/-- truth by values -/
theorem tru_V {F : Addr → Prop} {H : Hp} {S : Sto} {v : V} {x : U} {b : Bool} (sr : SR X.K cls F H S) (rx : VRel X.K F H v x) (h : truOf S x = some b) : TruV X.K v H b := by
  have gen : (∀ s, x ≠ .str s) → ((seqOf S x).map fun xs => !xs.isEmpty) = some b → TruV X.K v H b := by
    intro _ e
    cases q : seqOf S x with
    | none => rw [q] at e; cases e
    | some xs =>
      rw [q] at e; cases e
      obtain ⟨a, vs, rfl, ha, ra⟩ := seqOf_ok sr rx q
      have e : (!xs.isEmpty) = !vs.isEmpty := by cases ra <;> rfl
      show TruV X.K _ H (!xs.isEmpty)
      rw [e]
      rcases ha with ha | ha
      · exact .inl ⟨vs, ha, rfl⟩
      · exact .inr (.inl ⟨vs, ha, rfl⟩)
  cases x with
  | non => cases rx; simp only [truOf] at h; cases h; rfl
  | bl _ => cases rx; simp only [truOf] at h; cases h; rfl
  | int _ => cases rx; simp only [truOf] at h; cases h; rfl
  | str s =>
    cases rx
    simp only [truOf] at h
    split at h
    · next hz =>
      cases h
      refine ⟨by show s.toArray.size ≤ _; simpa using hz, ?_⟩
      show _ = ((s.toArray.size : Int) != 0)
      rw [Bool.eq_iff_iff]; simp
    · cases h
  | _ => exact gen (fun _ z => nomatch z) h
def Mth.nm : Mth → Str
  | .append => "append" | .pop => "pop" | .extend => "extend" | .join => "join" | .insert => "insert" | .remove => "remove"
def Mth.ty : Mth → String
  | .append => "list" | .pop => "list" | .extend => "list" | .join => "str" | .insert => "list" | .remove => "list"
def Mth.id : Mth → String
  | .append => "list.append" | .pop => "list.pop" | .extend => "list.extend" | .join => "str.join" | .insert => "list.insert" | .remove => "list.remove"
theorem joined_eq (a : List Nat) : ∀ ss : List (List Nat), Str.join ⟨a.toArray⟩ (ss.map fun s => (⟨s.toArray⟩ : Str)) = ⟨(joinU a ss).toArray⟩
  | [] => rfl
  | [x] => rfl
  | x :: y :: r => by
    have ih := joined_eq a (y :: r)
    rw [List.map_cons] at ih
    show (⟨x.toArray⟩ ++ ⟨a.toArray⟩ ++ Str.join ⟨a.toArray⟩ (⟨y.toArray⟩ :: r.map fun s => (⟨s.toArray⟩ : Str)) : Str) = _
    rw [ih]
    show Str.mk (x.toArray ++ a.toArray ++ (joinU a (y :: r)).toArray) = ⟨(x ++ a ++ joinU a (y :: r)).toArray⟩
    simp
theorem joined_eq' (a : List Nat) (ss : List (List Nat)) : Txt.join ⟨a.toArray⟩ (ss.map fun s => (⟨s.toArray⟩ : Str)) = ⟨(joinU a ss).toArray⟩ := by
  unfold Txt.join
  rw [PySem.StrLaws.glued_eq_join, joined_eq]
open PySem.AutoSeq1 in
/-- xs.extend(t), t a tuple -/
theorem ext_tup (l : Addr) (items : Array Value) (n : Nat) (b : Addr) (items2 : Array Value) (n2 : Nat) (dd : Option Addr) (sl : Array (Option Value)) (h0 : ¬(!items.isEmpty && Builtin.List.listTooLong (items.size + items2.size)) = true) (h1 : items.size ≤ sizeLine) (h2 : items.size + items2.size ≤ sizeLine + 1) :
    Meets (Builtin.«list.extend» ⟨[.ref l, .ref b], []⟩) (fun _ R s => s.heap.get? l = some { cls := .type "list", dict := none, data := .seq items n, slots := #[] } ∧
      s.heap.get? b = some { cls := .type "tuple", dict := dd, data := .seq items2 n2, slots := sl } ∧ R (.ok (.ret Value.none)) { s with heap := s.heap.update l (Obj.mapSeq fun x => x ++ items2), toks := s.toks }) := by
  refine .of_wp fun prog w A R s h => ?_
  obtain ⟨hp, g, d, tk, os⟩ := s
  obtain ⟨hl, hb, h⟩ := h
  have f1 := AutoSeq1.idx_int
  have f2 := AutoSeq1.sub_tuple_tuple
  have f3 := AutoSeq1.sub_list_list
  have f4 := AutoSeq1.sub_tuple_list
  have f5 := AutoSeq1.sub_list_tuple
  have hz' : (items ++ items2).size ≤ sizeLine + 1 := by rw [Array.size_append]; exact h2
  wp_walk using (wpAny_updateSeq hl rfl (hz := h1) (_hz' := hz')), wpAny_loadPart' hl, wpAny_loadPart' hb
  exact ⟨_, rfl, h⟩
def rExtT (K : PySem.W.Frag) : V → List V → Hp → VK → Prop := fun x vs H Q => ∃ l b xs zs, x = .ref l ∧ vs = [.ref b] ∧ H l = some (.lst xs) ∧ SqT K H b zs ∧ xs.length + zs.length ≤ sizeLine ∧ Q .non (upd H l (.lst (xs ++ zs)))
theorem mt_extT : MtR X "list.extend" (rExtT X.K) := by
  intro pins s σ H x vs v us Q I rx rv h
  obtain ⟨l, b, xs, zs, rfl, rfl, hH, hB, hz, q⟩ := h
  cases rx
  obtain ⟨u, rfl, ru⟩ := Vals.one rv
  cases ru
  obtain ⟨_, w1, n, r, _, e⟩ := I.lstM hH
  obtain ⟨w2, r2, ⟨⟨c2, d2, da2, sl2⟩, e2, hc2, n2, hd2⟩, _⟩ := I.tuple hB
  dsimp only at hc2 hd2
  subst hc2 hd2
  have z1 := r.length
  have z2 := r2.length
  have zz : w1.toArray.size + w2.toArray.size ≤ sizeLine := by rw [List.size_toArray, List.size_toArray, ← z1, ← z2]; exact hz
  have few : ¬ (!w1.toArray.isEmpty && Builtin.List.listTooLong (w1.toArray.size + w2.toArray.size)) = true := by rw [notLongL zz, Bool.and_false]; exact Bool.false_ne_true
  refine call_meets PySem.F.slot_list_extend ⟨_, e, rfl⟩ PySem.F.entry_list_extend (PySem.F.args_list_extend_2 _ _) (ext_tup l w1.toArray n b w2.toArray n2 d2 sl2 few (by omega) (by omega)) ⟨e, e2, ?_⟩
  exact ⟨.non, _, I.lset (its' := w1 ++ w2) (t' := s.toks) hH e (by simp) (r.append r2) (by rw [List.length_append]; exact hz), rfl, q⟩
/-- a method by values -/
theorem mth_ok (m : Mth) : ∃ r : V → List V → Hp → VK → Prop, MtR X m.id r ∧ ∀ (F : Addr → Prop) (H : Hp) (S : Sto) (v : V) (x : U) (vs : List V) (us : List U) (R : Post) (Q : VK), SR X.K cls F H S → VRel X.K F H v x → VRels X.K F H vs us → mthW m x us S R → Lq X.K cls F H S R Q → r v vs H Q := by
  cases m with
  | append =>
    refine ⟨_, mt_append, fun F H S v x vs us R Q sr rx rs h l => ?_⟩
    match x, us, h with
    | .ref a, [y], ⟨xs, h1, h2, h3⟩ =>
      obtain ⟨w, rfl, ry⟩ := rs.one
      cases rx
      obtain ⟨ws, hw, rw'⟩ := sr.sto a _ h1
      obtain ⟨s1, e1, f1⟩ := sr.write (o := .lst (ws ++ [w])) (ob := .lst (xs ++ [y])) h1 ⟨_, upd_same, (rw'.ext (sr.fe_write h1)).append (.cons (ry.ext (sr.fe_write h1)) .nil)⟩
      exact ⟨a, ws, w, rfl, rfl, hw, by rw [rw'.length]; exact h2, l _ _ h3 _ _ _ e1 s1 .non⟩
  | pop =>
    refine ⟨_, mt_pop, fun F H S v x vs us R Q sr rx rs h l => ?_⟩
    match x, us, h with
    | .ref a, [], ⟨xs, y, h1, h2, h3⟩ =>
      cases rs
      cases rx
      obtain ⟨ws, hw, rw'⟩ := sr.sto a _ h1
      obtain ⟨w, hw2, ry⟩ := rw'.get h2
      obtain ⟨s1, e1, f1⟩ := sr.write (o := .lst ws.dropLast) (ob := .lst xs.dropLast) h1 ⟨_, upd_same, (rw'.ext (sr.fe_write h1)).dropLast⟩
      exact ⟨a, ws, w, rfl, rfl, hw, by rw [rw'.length]; exact hw2, l _ _ h3 _ _ _ e1 s1 (ry.ext f1)⟩
  | extend =>
    refine ⟨_, MtR.or (X := X) (id := "list.extend") mt_extend mt_extT, fun F H S v x vs us R Q sr rx rs h l => ?_⟩
    match x, us, h with
    | .ref a, [y], ⟨xs, ys, h1, h2, h3, h4⟩ =>
      obtain ⟨w, rfl, ry⟩ := rs.one
      cases rx
      obtain ⟨ws, hw, rw'⟩ := sr.sto a _ h1
      rcases h2 with rfl | h2
      · cases ry with
        | @tup b zs _ tb rb =>
        obtain ⟨s1, e1, f1⟩ := sr.write (o := .lst (ws ++ zs)) (ob := .lst (xs ++ ys)) h1 ⟨_, upd_same, (rw'.ext (sr.fe_write h1)).append (rb.ext (sr.fe_write h1))⟩
        exact .inr ⟨a, b, ws, zs, rfl, rfl, hw, tb.sq, by rw [rw'.length, rb.length]; exact h3, l _ _ h4 _ _ _ e1 s1 .non⟩
      · obtain ⟨b, zs, rfl, hb, rb⟩ := lstOf_ok sr ry h2
        obtain ⟨s1, e1, f1⟩ := sr.write (o := .lst (ws ++ zs)) (ob := .lst (xs ++ ys)) h1 ⟨_, upd_same, (rw'.ext (sr.fe_write h1)).append (rb.ext (sr.fe_write h1))⟩
        exact .inl ⟨a, b, ws, zs, rfl, rfl, hw, hb, by rw [rw'.length, rb.length]; exact h3, l _ _ h4 _ _ _ e1 s1 .non⟩
  | join =>
    refine ⟨_, mt_join, fun F H S v x vs us R Q sr rx rs h l => ?_⟩
    match x, us, h with
    | .str s, [y], ⟨xs, ss, h1, h2, h3, h4⟩ =>
      obtain ⟨w, rfl, ry⟩ := rs.one
      cases rx
      obtain ⟨a, ws, rfl, ha, ra⟩ := lisOf_ok sr ry h1
      rw [strsOf_ok ra h2] at ha
      refine ⟨_, a, _, rfl, rfl, .inl ha, ?_, ?_⟩
      · simp only [List.map_map, List.length_map]
        have e : (Str.length ∘ fun s : List Nat => (⟨s.toArray⟩ : Str)) = List.length := by funext s; show s.toArray.size = _; simp
        rw [e]
        show _ + _ * s.toArray.size ≤ _
        simpa using h3
      · rw [joined_eq']
        exact l.now sr h4 (.str _)
  | insert =>
    refine ⟨_, mt_insert, fun F H S v x vs us R Q sr rx rs h l => ?_⟩
    match x, us, h with
    | .ref a, [.int i, y], ⟨xs, h1, h2, h3, h4, h5⟩ =>
      obtain ⟨z, w, rfl, rz, ry⟩ := rs.two
      cases rx; cases rz
      obtain ⟨ws, hw, rw'⟩ := sr.sto a _ h1
      have fw := sr.fe_write (o := .lst (ws.take i.toNat ++ [w] ++ ws.drop i.toNat)) h1
      obtain ⟨s1, e1, f1⟩ := sr.write (o := .lst (ws.take i.toNat ++ [w] ++ ws.drop i.toNat)) (ob := .lst (xs.take i.toNat ++ [y] ++ xs.drop i.toNat)) h1 ⟨_, upd_same, (((rw'.ext fw).take _).append (.cons (ry.ext fw) .nil)).append ((rw'.ext fw).drop _)⟩
      exact ⟨a, ws, i, w, rfl, rfl, hw, by rw [rw'.length]; exact h2, h3, h4, l _ _ h5 _ _ _ e1 s1 .non⟩
  | remove =>
    refine ⟨_, mt_remove, fun F H S v x vs us R Q sr rx rs h l => ?_⟩
    match x, us, h with
    | .ref a, [.int n], ⟨ns, j, h1, h2, h3, h4⟩ =>
      obtain ⟨z, rfl, rz⟩ := rs.one
      cases rx; cases rz
      obtain ⟨ws, hw, rw'⟩ := sr.sto a _ h1
      have e := rw'.ints
      subst e
      obtain ⟨s1, e1, f1⟩ := sr.write (o := .lst ((ns.eraseIdx j).map V.int)) (ob := .lst ((ns.eraseIdx j).map U.int)) h1 ⟨_, upd_same, vrels_ints _⟩
      exact ⟨a, ns, n, j, rfl, rfl, hw, h2, h3, l _ _ h4 _ _ _ e1 s1 .non⟩
/-- the receiver is of the method's type -/
theorem mth_ty (m : Mth) {F : Addr → Prop} {H : Hp} {S : Sto} {v : V} {x : U} (sr : SR X.K cls F H S) (rx : VRel X.K F H v x) (h : mthTy m x S) : tyV X.K m.ty v H := by
  have lst : (∃ a xs, x = .ref a ∧ S a = some (.lst xs)) → tyV X.K "list" v H := by
    rintro ⟨a, xs, rfl, ha⟩
    cases rx
    obtain ⟨ws, hw, _⟩ := sr.sto a _ ha
    exact .inl ⟨rfl, ws, SqL.of hw⟩
  cases m with
  | join =>
    obtain ⟨s, rfl⟩ := h
    cases rx
    rfl
  | _ => exact lst h
/-! ### t[::-1] of a tuple -/
theorem adjust_rev (n : Nat) : Builtin.Slice.sliceAdjust none none (-1) (n : Int) = ((n : Int) - 1, -1) := by
  unfold Builtin.Slice.sliceAdjust
  simp
theorem places_rev (n : Nat) : Builtin.Slice.slicePlaces ((n : Int) - 1) (-1) (-1) = n := by
  unfold Builtin.Slice.slicePlaces
  by_cases h : n = 0
  · subst h; rfl
  · have : (-1 : Int) < (n : Int) - 1 := by omega
    simp [this]
theorem pick_rev (xs : Array Value) : ((List.range xs.size).filterMap fun (m : Nat) => xs[((xs.size : Int) - 1 + (m : Int) * (-1)).toNat]?).toArray = xs.toList.reverse.toArray := by
  have gen : ∀ l : List Nat, (∀ m ∈ l, m < xs.size) → l.filterMap (fun (m : Nat) => xs[((xs.size : Int) - 1 + (m : Int) * (-1)).toNat]?) = l.map fun m => xs[xs.size - 1 - m]?.getD .none := by
    intro l
    induction l with
    | nil => intro _; rfl
    | cons m l ih =>
      intro hl
      have hm := hl m List.mem_cons_self
      have e : ((xs.size : Int) - 1 + (m : Int) * (-1)).toNat = xs.size - 1 - m := by omega
      have h1 : xs.size - 1 - m < xs.size := by omega
      rw [List.filterMap_cons, e, List.map_cons, ih fun j hj => hl j (List.mem_cons_of_mem _ hj)]
      simp [h1]
  have e := gen (List.range xs.size) fun m hm => List.mem_range.mp hm
  rw [e]
  congr 1
  refine List.ext_getElem (by simp) fun i h1 h2 => ?_
  have hi : i < xs.size := by simpa using h1
  have : xs.size - 1 - i < xs.size := by omega
  simp [this]
theorem sliceApplied_rev {prog : Program} {w : World} {A : Around} {E : Value → Shared → Prop} {s : Shared} {sl : Addr} {n : Nat} {t : Tok} {Q : Int × Int × Nat → Shared → Prop} (hs : s.heap.IsSliceOf sl .none .none (.int (-1) t)) (h : Q ((n : Int) - 1, -1, n) s) :
    wpAny (model prog w) A (Builtin.Slice.sliceApplied (.ref sl) (pure (n : Int))) Q E s := by
  obtain ⟨ob, hob, _, hda⟩ := id hs
  unfold Builtin.Slice.sliceApplied Builtin.Slice.sliceFields
  refine wpAny_bind (wpAny_bind (wpAny_field hob hda (x := .none) rfl (wpAny_bind (wpAny_field hob hda (x := .none) rfl (wpAny_bind (wpAny_field hob hda (x := .int (-1) t) rfl (wpAny_pure ?_)))))))
  refine wpAny_bind (PyProof.Rows.slicePart_int ?_)
  show wpAny _ _ (if ((-1 : Int) == 0) = true then _ else _) _ _ s
  rw [if_neg (by decide)]
  refine wpAny_bind (PyProof.Rows.slicePart_none (wpAny_bind (PyProof.Rows.slicePart_none (wpAny_bind (wpAny_pure ?_)))))
  show wpAny _ _ (match Builtin.Slice.sliceAdjust none none (-1) (n : Int) with | (lo, hi) => pure (lo, (-1 : Int), Builtin.Slice.slicePlaces lo hi (-1))) _ _ s
  rw [adjust_rev n]
  show wpAny _ _ (pure ((n : Int) - 1, (-1 : Int), Builtin.Slice.slicePlaces ((n : Int) - 1) (-1) (-1))) _ _ s
  rw [places_rev]
  exact wpAny_pure h
theorem getItem_tup_rev {prog : Program} {w : World} {A : Around} {E : Value → Shared → Prop} {s : Shared} {a sl : Addr} {its : Array Value} {t : Tok} {Q : Value → Shared → Prop} (ht : IsTup s.heap a its) (hs : s.heap.IsSliceOf sl .none .none (.int (-1) t))
    (h : Q (.ref s.heap.objs.size) { s with heap := s.heap.push { cls := .type "tuple", data := .seq its.toList.reverse.toArray } }) (hz : its.size ≤ sizeLine) : wpAny (model prog w) A (getItem (.ref a) (.ref sl)) Q E s := by
  have hk : sizeOk (.seq its.toList.reverse.toArray) := by
    show its.toList.reverse.toArray.size ≤ sizeLine
    simpa using hz
  obtain ⟨ob, hob, hco, _⟩ := id hs
  have hT : s.TypeIs (.ref sl) "slice" := ⟨ob, hob, hco⟩
  unfold getItem
  try with_reducible refine wpAny_holding ?_
  first | refine wpAny_bind (wpAny_pure ?_) | skip
  refine wpAny_bind (wpAny_sequenceKey ht.typeIs (by decide) ?_)
  refine wpAny_bind (wpAny_callSpecial?_slot (name := Str.ofString "__getitem__") ht.typeIs PyProof.Rows.slot_tuple_getitem (wpAny_call_entry PyProof.Rows.slot_tuple_getitem ht.typeIs entry_tuple_getitem ?_ (args_tuple_getitem _ _)))
  show wpAny _ _ (Builtin.Tuple.tupleItemsOf (.ref a) >>= _) _ _ s
  refine wpAny_bind (tupleItemsOf_ ht ?_)
  refine wpAny_bind (wpAny_typeOf hT ?_)
  rw [if_pos (by decide)]
  refine wpAny_bind (sliceApplied_rev hs ?_)
  have hno : ¬ ((((its.size : Int) - 1) == 0 && (-1 : Int) == 1 && its.size == its.size) = true) := by simp
  show wpAny _ _ (if ((((its.size : Int) - 1) == 0 && (-1 : Int) == 1 && its.size == its.size) = true) then _ else _) _ _ s
  rw [if_neg hno, pick_rev]
  first
    | exact wpAny_bind (m := Builtin.Tuple.tupleExact _) (wpAny_newObj_type (wpAny_pure ⟨_, rfl, wpAny_pure h⟩) hk)
    | exact wpAny_bind (m := Builtin.Tuple.tupleExact _) (wpAny_newObj_type (wpAny_bind (wpAny_pure (wpAny_pure ⟨_, rfl, wpAny_pure h⟩))) hk)
    | exact wpAny_bind (wpAny_bind (m := Builtin.Tuple.tupleExact _) (wpAny_newObj_type (wpAny_pure (wpAny_pure ⟨_, rfl, wpAny_pure h⟩)) hk))
    | exact wpAny_bind (wpAny_bind (m := Builtin.Tuple.tupleExact _) (wpAny_newObj_type (wpAny_pure ⟨_, rfl, wpAny_pure h⟩) hk))
def tRevT (K : PySem.W.Frag) (te : TE) : TE := fun σ H Q => te σ H fun x H1 => ∃ a xs, x = .ref a ∧ SqT K H1 a xs ∧ ∀ p, H1 p = none → Q (.ref p) (upd H1 p (.tup xs.reverse))
theorem pe_revT {e : Expr} {te : TE} {k : Nat} {p1 p2 p3 pos : Pos} (he : PE X e te) : PE X (.Subscript e (.Slice none none (some (.UnaryOp .USub (.Constant (.int 1) k p1) p2)) p3) pos) (tRevT X.K te) := by
  refine ⟨fun pins s σ H Q I h => ?_⟩
  refine Subscript_ (thn (he.run pins s σ H _ I h) fun v s1 ⟨x, H1, I1, r1, a, xs, ex, hx, q⟩ => ?_)
  subst ex
  cases r1
  have hst : PO X (some (.UnaryOp .USub (.Constant (.int 1) k p1) p2)) (tPart (tUn (rU fun i => .int (-i)) (tC (.int 1)))) := po_some (pe_un un_neg pe_int)
  refine wpAny_Slice (thn (po_none.run pins s1 σ H1 (fun o G => o = none ∧ G = H1) I1 ⟨rfl, rfl⟩) fun vl s2 ⟨l, G2, I2, pl, el, e2⟩ => ?_)
  subst el e2
  refine thn (po_none.run pins s2 σ _ (fun o G => o = none ∧ G = _) I2 ⟨rfl, rfl⟩) fun vu s3 ⟨u, G3, I3, pu, eu, e3⟩ => ?_
  subst eu e3
  refine thn (hst.run pins s3 σ _ (fun o G => o = some (-1) ∧ G = _) I3 ⟨1, rfl, -1, rfl, rfl, rfl⟩) fun vs s4 ⟨o, G4, I4, ps, eo, e4⟩ => ?_
  subst eo e4
  cases pl
  cases pu
  cases ps
  rename Tok => t
  have I5 : L2.Inv X pins σ _ { s4 with heap := s4.heap.push { cls := .type "slice", data := .fields #[.none, .none, .int (-1) t] } } := I4.kept (t' := s4.toks) fun b ob q => Heap.get?_push_of_some _ q
  obtain ⟨its, r, ht, hz⟩ := I5.tuple hx
  have hlen := r.length
  show wpAny (model X.prog X.w) X.A (subscriptTail e (.Slice none none (some (.UnaryOp .USub (.Constant (.int 1) k p1) p2)) p3) (.ref a) (.ref s4.heap.objs.size)) _ _ _
  refine tail_any (ops := [.ref a, .ref s4.heap.objs.size]) ht.typeIs PyProof.Rows.slot_tuple_getitem.lookup ?_ (by with_unfolding_all rfl)
  refine getItem_tup_rev ht (Heap.IsSliceOf.new _ .none .none (.int (-1) t)) ?_ (by rw [List.size_toArray]; omega)
  refine ⟨.ref _, _, I5.laid (t' := s4.toks) (o := .tup xs.reverse) (fun b ob q => Heap.get?_push_of_some _ q) (Nat.le_refl _) ?_, rfl, q _ (I5.hok.fresh (Nat.le_refl _))⟩
  exact ⟨by rw [List.length_reverse]; exact hz, _, r.reverse, IsTup.new _ _⟩
/-! ### repr(x) of data -/
def rRpr (K : PySem.W.Frag) : List V → Hp → VK → Prop := fun xs H Q => ∃ v d, xs = [v] ∧ Dp K H v d ∧ d.canLay0 = true ∧ d.showable = true ∧ d.depth ≤ 128 ∧ d.shown.length ≤ sizeLine ∧ Q (.str d.shown) H
theorem call_rpr (hg : X.A.guards = some []) (hu : X.A.units + 200 < cLine) : CallR X (.builtin "repr") (rRpr X.K) := by
  intro pins s σ H xs us Q I r hh
  obtain ⟨v, d, rfl, hd, hl, hs, hp, hz, q⟩ := hh
  obtain ⟨u, rfl, ru⟩ := vals1 r
  obtain ⟨as, rd⟩ := Dp.reads I d v u hd ru
  have fin : ∀ (t : Tok) (k : Nat), EP X pins σ Q (.str d.shown t) { s with toks := k } := fun t k => ⟨.str d.shown, H, I.tok k, ⟨t, rfl⟩, q⟩
  have nd : d.hasDict = true → sysModules ∉ as := PyData.noDict_hsm (PyData.hasDict_of_canLay d hl)
  have ref : ∀ a, u = .ref a → wpAny (model X.prog X.w) X.A (call (.builtin "repr") [u]) (EP X pins σ Q) X.xe s := fun a e => by
    subst e
    refine repr_of_reads' rd hs nd hg (by omega) (fun _ _ e => e) (fun h' t k hk => ?_) hz
    exact ⟨.str d.shown, H, I.kept (t' := k) hk, ⟨t, rfl⟩, q⟩
  cases rd with
  | none => exact PySem.P.repr_of_none (fin _ _)
  | bool b => exact PySem.P.repr_of_bool (fin _ _)
  | int i t => exact PySem.P.repr_of_int (by simpa [PyData.showable] using hs) (fin _ _)
  | str x t => exact PySem.P.repr_of_str (fin _ _) hz
  | list => exact ref _ rfl
  | tuple => exact ref _ rfl
  | dict => exact ref _ rfl
end
end Mm
/-! MmE: the lifts, and the rules one by one -/
namespace Mm
open PySem PySem.Spec PyProof.Rows L2
/-- what is wanted of a result, brought to the layer below -/
def LG {α β : Type} (rel : (Addr → Prop) → Hp → β → α → Prop) (K : PySem.W.Frag) (cls : Anc) (F : Addr → Prop) (H : Hp) (S : Sto) (R : α → Sto → Prop) (Q : β → Hp → Prop) : Prop :=
  ∀ u S', R u S' → ∀ F' H' v, Ext F H S F' H' S' → SR K cls F' H' S' → rel F' H' v u → Q v H'
def lift {α β : Type} (rel : (Addr → Prop) → Hp → β → α → Prop) (K : PySem.W.Frag) (cls : Anc) (w : Env → Sto → (α → Sto → Prop) → Prop) : L2.St → Hp → (β → Hp → Prop) → Prop :=
  fun σ H Q => ∃ F S ρ R, SR K cls F H S ∧ ER K F H σ ρ ∧ w ρ S R ∧ LG rel K cls F H S R Q
abbrev tE (K : PySem.W.Frag) (cls : Anc) (w : Env → Sto → Post → Prop) : TE := lift (VRel K) K cls w
abbrev relB : (Addr → Prop) → Hp → Bool → Bool → Prop := fun _ _ b c => b = c
abbrev tB' (K : PySem.W.Frag) (cls : Anc) (w : Env → Sto → (Bool → Sto → Prop) → Prop) : TT := lift relB K cls w
abbrev tA (K : PySem.W.Frag) (cls : Anc) (w : Env → Sto → (List U → Sto → Prop) → Prop) : TA := lift (VRels K) K cls w
abbrev relO : (Addr → Prop) → Hp → Option Int → Option Int → Prop := fun _ _ b c => b = c
abbrev tO (K : PySem.W.Frag) (cls : Anc) (w : Env → Sto → (Option Int → Sto → Prop) → Prop) : TO := lift relO K cls w
section
variable {α β : Type} {rel : (Addr → Prop) → Hp → β → α → Prop} {K : PySem.W.Frag} {cls : Anc} {F F1 : Addr → Prop} {H H1 : Hp} {S S1 : Sto} {R : α → Sto → Prop} {Q : β → Hp → Prop}
theorem LG.step (l : LG rel K cls F H S R Q) (e : Ext F H S F1 H1 S1) : LG rel K cls F1 H1 S1 R Q := fun u S' r F' H' v e' => l u S' r F' H' v (e.trans e')
theorem LG.now (l : LG rel K cls F H S R Q) (sr : SR K cls F H S) {u : α} {v : β} (r : R u S) (h : rel F H v u) : Q v H := l u S r F H v .refl sr h
theorem LG.lq {R : Post} {Q : VK} (l : LG (VRel K) K cls F H S R Q) : Lq K cls F H S R Q := l
end
section
variable {X : Cx} {cls : Anc} {a b c e : Expr} {wa wb wc : Env → Sto → Post → Prop} {pos : Pos}
theorem _root_.L2.PE.imp {e : Expr} {t t' : TE} (h : PE X e t) (f : ∀ σ H Q, t' σ H Q → t σ H Q) : PE X e t' := ⟨fun pins s σ H Q I q => h.run pins s σ H Q I (f σ H Q q)⟩
theorem _root_.L2.PT.imp {e : Expr} {t t' : TT} (h : PT X e t) (f : ∀ σ H Q, t' σ H Q → t σ H Q) : PT X e t' := ⟨fun pins s σ H Q I q => h.run pins s σ H Q I (f σ H Q q)⟩
theorem _root_.L2.PW.imp {e : Expr} {t t' : TT} (h : PW X e t) (f : ∀ σ H Q, t' σ H Q → t σ H Q) : PW X e t' := ⟨fun wh pins s σ H Q I q => h.run wh pins s σ H Q I (f σ H Q q)⟩
theorem _root_.L2.PA.imp {e : List Expr} {t t' : TA} (h : PA X e t) (f : ∀ σ H Q, t' σ H Q → t σ H Q) : PA X e t' := ⟨fun p pins s σ H Q I q => h.run p pins s σ H Q I (f σ H Q q)⟩
theorem _root_.L2.PO.imp {e : Option Expr} {t t' : TO} (h : PO X e t) (f : ∀ σ H Q, t' σ H Q → t σ H Q) : PO X e t' := ⟨fun pins s σ H Q I q => h.run pins s σ H Q I (f σ H Q q)⟩
theorem _root_.L2.PS.imp {e : Stmt} {t t' : TS} (h : PS X e t) (f : ∀ D σ H, t' D σ H → t D σ H) : PS X e t' := ⟨fun pins s σ H D I q => h.run pins s σ H D I (f D σ H q)⟩
theorem _root_.L2.PSs.imp {e : List Stmt} {t t' : TS} (h : PSs X e t) (f : ∀ D σ H, t' D σ H → t D σ H) : PSs X e t' := ⟨fun pins s σ H D I q => h.run pins s σ H D I (f D σ H q)⟩
theorem _root_.L2.PG.imp {e : Expr} {t t' : TG} (h : PG X e t) (f : ∀ v σ H Q, t' v σ H Q → t v σ H Q) : PG X e t' := ⟨fun pins s σ H v u Q I r q => h.run pins s σ H v u Q I r (f v σ H Q q)⟩
theorem _root_.L2.PI.imp {tg e : Expr} {t t' : TI} (h : PI X tg e t) (f : ∀ σ H R, t' σ H R → t σ H R) : PI X tg e t' := ⟨fun pins s σ H R I q => h.run pins s σ H R I (f σ H R q)⟩
/-- constants -/
theorem s_lit {u : U} {v : V} (h : PE X e (tC v)) (r : ∀ F H, VRel X.K F H v u) : PE X e (tE X.K cls fun _ S R => R u S) :=
  h.imp fun σ H Q ⟨F, S, ρ, R, sr, er, hw, l⟩ => l.now sr hw (r F H)
theorem s_var {i : Nat} (h : PE X e (tVar i)) : PE X e (tE X.K cls fun ρ S R => ∃ u, ρ[i]? = some (some u) ∧ R u S) :=
  h.imp fun σ H Q ⟨F, S, ρ, R, sr, er, ⟨u, hu, hw⟩, l⟩ => by
    obtain ⟨v, hv, rv⟩ := er.at_ i u hu
    exact ⟨v, hv, l.now sr hw rv⟩
theorem s_bin {op : Operator} {f : U → U → Sto → Post → Prop} (ho : OkR X cls (binaryOp op) f) (ha : PE X a (tE X.K cls wa)) (hb : PE X b (tE X.K cls wb)) :
    PE X (.BinOp a op b pos) (tE X.K cls fun ρ S R => wa ρ S fun x S1 => wb ρ S1 fun y S2 => f x y S2 R) := by
  obtain ⟨r, hr, hq⟩ := ho
  refine (pe_op hr ha hb).imp fun σ H Q ⟨F, S, ρ, R, sr, er, hw, l⟩ => ⟨F, S, ρ, _, sr, er, hw, fun x S1 h1 F1 H1 v e1 s1 r1 => ?_⟩
  exact ⟨F1, S1, ρ, _, s1, er.ext (e1.f sr), h1, fun y S2 h2 F2 H2 w e2 s2 r2 => hq F2 H2 S2 v w x y R Q s2 (r1.ext (e2.f s1)) r2 h2 (l.step (e1.trans e2)).lq⟩
theorem s_cmp {op : CmpOp} {f : U → U → Sto → (Bool → Prop) → Prop} (ho : OkB X cls (compareOp op) f) (hm : behindInMarks op b = false) (ha : PE X a (tE X.K cls wa)) (hb : PE X b (tE X.K cls wb)) :
    PE X (.Compare a [op] [b] pos) (tE X.K cls fun ρ S R => wa ρ S fun x S1 => wb ρ S1 fun y S2 => f x y S2 fun k => R (.bl k) S2) := by
  obtain ⟨r, hr, hq⟩ := ho
  refine (pe_cmpR hr ha hb hm).imp fun σ H Q ⟨F, S, ρ, R, sr, er, hw, l⟩ => ⟨F, S, ρ, _, sr, er, hw, fun x S1 h1 F1 H1 v e1 s1 r1 => ?_⟩
  exact ⟨F1, S1, ρ, _, s1, er.ext (e1.f sr), h1, fun y S2 h2 F2 H2 w e2 s2 r2 => hq F2 H2 S2 v w x y _ Q s2 (r1.ext (e2.f s1)) r2 h2 fun k hk => (l.step (e1.trans e2)).now s2 hk (.bl k)⟩
theorem s_cmpT {op : CmpOp} {f : U → U → Sto → (Bool → Prop) → Prop} (ho : OkB X cls (compareOp op) f) (hm : behindInMarks op b = false) (ha : PE X a (tE X.K cls wa)) (hb : PE X b (tE X.K cls wb)) :
    PT X (.Compare a [op] [b] pos) (tB' X.K cls fun ρ S R => wa ρ S fun x S1 => wb ρ S1 fun y S2 => f x y S2 fun k => R k S2) := by
  obtain ⟨r, hr, hq⟩ := ho
  refine (pt_cmpR hr ha hb hm).imp fun σ H Q ⟨F, S, ρ, R, sr, er, hw, l⟩ => ⟨F, S, ρ, _, sr, er, hw, fun x S1 h1 F1 H1 v e1 s1 r1 => ?_⟩
  exact ⟨F1, S1, ρ, _, s1, er.ext (e1.f sr), h1, fun y S2 h2 F2 H2 w e2 s2 r2 => hq F2 H2 S2 v w x y _ _ s2 (r1.ext (e2.f s1)) r2 h2 fun k hk => ⟨k, rfl, (l.step (e1.trans e2)).now s2 hk rfl⟩⟩
theorem s_chain {op op' : CmpOp} {f g : U → U → Sto → (Bool → Prop) → Prop} (ho : OkB X cls (compareOp op) f) (ho' : OkB X cls (compareOp op') g) (hm' : lastMarks [op, op'] [b, c] = false) (ha : PE X a (tE X.K cls wa)) (hb : PE X b (tE X.K cls wb)) (hc : PE X c (tE X.K cls wc)) :
    PE X (.Compare a [op, op'] [b, c] pos) (tE X.K cls fun ρ S R => wa ρ S fun x S1 => wb ρ S1 fun y S2 => f x y S2 fun k => if k then wc ρ S2 fun z S3 => g y z S3 fun k' => R (.bl k') S3 else R (.bl false) S2) := by
  obtain ⟨r, hr, hq⟩ := ho
  obtain ⟨r', hr', hq'⟩ := ho'
  refine (pe_chain hr hr' ha hb hc hm').imp fun σ H Q ⟨F, S, ρ, R, sr, er, hw, l⟩ => ⟨F, S, ρ, _, sr, er, hw, fun x S1 h1 F1 H1 v e1 s1 r1 => ?_⟩
  refine ⟨F1, S1, ρ, _, s1, er.ext (e1.f sr), h1, fun y S2 h2 F2 H2 w e2 s2 r2 => hq F2 H2 S2 v w x y _ _ s2 (r1.ext (e2.f s1)) r2 h2 fun k hk => ⟨k, rfl, ?_⟩⟩
  have e12 := e1.trans e2
  cases k with
  | false => exact l.step e12 |>.now s2 hk (.bl false)
  | true => exact ⟨F2, S2, ρ, _, s2, er.ext (e12.f sr), hk, fun z S3 h3 F3 H3 z' e3 s3 r3 => hq' F3 H3 S3 w z' y z _ Q s3 (r2.ext (e3.f s2)) r3 h3 fun k hk => (l.step (e12.trans e3)).now s3 hk (.bl k)⟩
theorem s_chainT {op op' : CmpOp} {f g : U → U → Sto → (Bool → Prop) → Prop} (ho : OkB X cls (compareOp op) f) (ho' : OkB X cls (compareOp op') g) (hm' : lastMarks [op, op'] [b, c] = false) (ha : PE X a (tE X.K cls wa)) (hb : PE X b (tE X.K cls wb)) (hc : PE X c (tE X.K cls wc)) :
    PT X (.Compare a [op, op'] [b, c] pos) (tB' X.K cls fun ρ S R => wa ρ S fun x S1 => wb ρ S1 fun y S2 => f x y S2 fun k => if k then wc ρ S2 fun z S3 => g y z S3 fun k' => R k' S3 else R false S2) := by
  obtain ⟨r, hr, hq⟩ := ho
  obtain ⟨r', hr', hq'⟩ := ho'
  refine (pt_chain hr hr' ha hb hc hm').imp fun σ H Q ⟨F, S, ρ, R, sr, er, hw, l⟩ => ⟨F, S, ρ, _, sr, er, hw, fun x S1 h1 F1 H1 v e1 s1 r1 => ?_⟩
  refine ⟨F1, S1, ρ, _, s1, er.ext (e1.f sr), h1, fun y S2 h2 F2 H2 w e2 s2 r2 => hq F2 H2 S2 v w x y _ _ s2 (r1.ext (e2.f s1)) r2 h2 fun k hk => ⟨k, rfl, ?_⟩⟩
  have e12 := e1.trans e2
  cases k with
  | false => exact ⟨false, rfl, l.step e12 |>.now s2 hk rfl⟩
  | true => exact ⟨F2, S2, ρ, _, s2, er.ext (e12.f sr), hk, fun z S3 h3 F3 H3 z' e3 s3 r3 => hq' F3 H3 S3 w z' y z _ _ s3 (r2.ext (e3.f s2)) r3 h3 fun k hk => ⟨k, rfl, (l.step (e12.trans e3)).now s3 hk rfl⟩⟩
/-- and, or, not as values -/
theorem s_and {rest : List Expr} (ha : PE X a (tE X.K cls wa)) (hb : PE X (.BoolOp .And (b :: rest) pos) (tE X.K cls wb)) :
    PE X (.BoolOp .And (a :: b :: rest) pos) (tE X.K cls fun ρ S R => wa ρ S fun x S1 => match x with | .bl k => if k then wb ρ S1 R else R (.bl false) S1 | _ => False) := by
  refine (pe_and ha hb).imp fun σ H Q ⟨F, S, ρ, R, sr, er, hw, l⟩ => ⟨F, S, ρ, _, sr, er, hw, fun x S1 h1 F1 H1 v e1 s1 r1 => ?_⟩
  cases x <;> first | exact h1.elim | skip
  cases r1
  next k =>
  refine ⟨k, rfl, ?_⟩
  cases k with
  | false => exact (l.step e1).now s1 h1 (.bl false)
  | true => exact ⟨F1, S1, ρ, R, s1, er.ext (e1.f sr), h1, l.step e1⟩
theorem s_or {rest : List Expr} (ha : PE X a (tE X.K cls wa)) (hb : PE X (.BoolOp .Or (b :: rest) pos) (tE X.K cls wb)) :
    PE X (.BoolOp .Or (a :: b :: rest) pos) (tE X.K cls fun ρ S R => wa ρ S fun x S1 => match x with | .bl k => if k then R (.bl true) S1 else wb ρ S1 R | _ => False) := by
  refine (pe_or ha hb).imp fun σ H Q ⟨F, S, ρ, R, sr, er, hw, l⟩ => ⟨F, S, ρ, _, sr, er, hw, fun x S1 h1 F1 H1 v e1 s1 r1 => ?_⟩
  cases x <;> first | exact h1.elim | skip
  cases r1
  next k =>
  refine ⟨k, rfl, ?_⟩
  cases k with
  | true => exact (l.step e1).now s1 h1 (.bl true)
  | false => exact ⟨F1, S1, ρ, R, s1, er.ext (e1.f sr), h1, l.step e1⟩
theorem s_not (ha : PE X a (tE X.K cls wa)) : PE X (.UnaryOp .Not a pos) (tE X.K cls fun ρ S R => wa ρ S fun x S1 => match x with | .bl k => R (.bl (!k)) S1 | _ => False) := by
  refine (pe_not ha).imp fun σ H Q ⟨F, S, ρ, R, sr, er, hw, l⟩ => ⟨F, S, ρ, _, sr, er, hw, fun x S1 h1 F1 H1 v e1 s1 r1 => ?_⟩
  cases x <;> first | exact h1.elim | skip
  cases r1
  exact ⟨_, rfl, (l.step e1).now s1 h1 (.bl _)⟩
theorem s_neg (ha : PE X a (tE X.K cls wa)) : PE X (.UnaryOp .USub a pos) (tE X.K cls fun ρ S R => wa ρ S fun x S1 => match x with | .int i => R (.int (-i)) S1 | _ => False) := by
  refine (pe_un un_neg ha).imp fun σ H Q ⟨F, S, ρ, R, sr, er, hw, l⟩ => ⟨F, S, ρ, _, sr, er, hw, fun x S1 h1 F1 H1 v e1 s1 r1 => ?_⟩
  cases x <;> first | exact h1.elim | skip
  cases r1
  exact ⟨_, rfl, (l.step e1).now s1 h1 (.int _)⟩
theorem s_ife {t : Expr} {wt : Env → Sto → (Bool → Sto → Prop) → Prop} (ht : PT X t (tB' X.K cls wt)) (ha : PE X a (tE X.K cls wa)) (hb : PE X b (tE X.K cls wb)) :
    PE X (.IfExp t a b pos) (tE X.K cls fun ρ S R => wt ρ S fun k S1 => if k then wa ρ S1 R else wb ρ S1 R) := by
  refine (pe_ifExp ht ha hb).imp fun σ H Q ⟨F, S, ρ, R, sr, er, hw, l⟩ => ⟨F, S, ρ, _, sr, er, hw, fun k S1 h1 F1 H1 k' e1 s1 r1 => ?_⟩
  cases r1
  cases k with
  | true => exact ⟨F1, S1, ρ, R, s1, er.ext (e1.f sr), h1, l.step e1⟩
  | false => exact ⟨F1, S1, ρ, R, s1, er.ext (e1.f sr), h1, l.step e1⟩
/-- arguments -/
theorem s_nil : PA X [] (tA X.K cls fun _ S R => R [] S) := pa_nil.imp fun σ H Q ⟨F, S, ρ, R, sr, er, hw, l⟩ => l.now sr hw .nil
theorem s_cons {es : List Expr} {wr : Env → Sto → (List U → Sto → Prop) → Prop} (ha : PE X a (tE X.K cls wa)) (hr : PA X es (tA X.K cls wr)) (hs : starEach (a :: es) X.env = (false, eval a X.env) :: starEach es X.env) :
    PA X (a :: es) (tA X.K cls fun ρ S R => wa ρ S fun x S1 => wr ρ S1 fun xs S2 => R (x :: xs) S2) := by
  refine (pa_cons ha hr hs).imp fun σ H Q ⟨F, S, ρ, R, sr, er, hw, l⟩ => ⟨F, S, ρ, _, sr, er, hw, fun x S1 h1 F1 H1 v e1 s1 r1 => ?_⟩
  exact ⟨F1, S1, ρ, _, s1, er.ext (e1.f sr), h1, fun xs S2 h2 F2 H2 vs e2 s2 r2 => (l.step (e1.trans e2)).now s2 h2 (.cons (r1.ext (e2.f s1)) r2)⟩
variable {es : List Expr} {wr : Env → Sto → (List U → Sto → Prop) → Prop}
theorem s_tup {k : Nat} (h : PA X es (tA X.K cls wr)) : PE X (.Tuple es k pos) (tE X.K cls fun ρ S R => wr ρ S fun us S1 => us.length ≤ sizeLine ∧ R (.tup us) S1) := by
  refine (pe_tup h).imp fun σ H Q ⟨F, S, ρ, R, sr, er, hw, l⟩ => ⟨F, S, ρ, _, sr, er, hw, fun us S1 h1 F1 H1 vs e1 s1 r1 => ⟨by rw [r1.length]; exact h1.1, newTup (l.step e1).lq s1 h1.2 r1⟩⟩
theorem s_lst {m : Bool} (h : PA X es (tA X.K cls wr)) : PE X (.List es pos) (tE X.K cls fun ρ S R => wr ρ S fun us S1 => us.length ≤ sizeLine ∧ alloc m us S1 R) := by
  refine (pe_lst h).imp fun σ H Q ⟨F, S, ρ, R, sr, er, hw, l⟩ => ⟨F, S, ρ, _, sr, er, hw, fun us S1 h1 F1 H1 vs e1 s1 r1 => ⟨by rw [r1.length]; exact h1.1, alloc_ok (l.step e1).lq s1 h1.2 r1⟩⟩
theorem s_idx (hu : X.A.units + 9 < cLine) (ha : PE X a (tE X.K cls wa)) (hb : PE X b (tE X.K cls wb)) (hs : PlainIx b) :
    PE X (.Subscript a b pos) (tE X.K cls fun ρ S R => wa ρ S fun x S1 => wb ρ S1 fun y S2 => idxW x y S2 R) := by
  obtain ⟨r, hr, hq⟩ := ix_ok (X := X) (cls := cls) hu
  refine (pe_ix hr ha hb hs).imp fun σ H Q ⟨F, S, ρ, R, sr, er, hw, l⟩ => ⟨F, S, ρ, _, sr, er, hw, fun x S1 h1 F1 H1 v e1 s1 r1 => ?_⟩
  exact ⟨F1, S1, ρ, _, s1, er.ext (e1.f sr), h1, fun y S2 h2 F2 H2 w e2 s2 r2 => hq F2 H2 S2 v w x y R Q s2 (r1.ext (e2.f s1)) r2 h2 (l.step (e1.trans e2)).lq⟩
theorem s_po : PO X none (tO X.K cls fun _ S R => R none S) := po_none.imp fun σ H Q ⟨F, S, ρ, R, sr, er, hw, l⟩ => l.now sr hw rfl
theorem s_ps (ha : PE X a (tE X.K cls wa)) : PO X (some a) (tO X.K cls fun ρ S R => wa ρ S fun x S1 => match x with | .int i => R (some i) S1 | _ => False) := by
  refine (po_some ha).imp fun σ H Q ⟨F, S, ρ, R, sr, er, hw, l⟩ => ⟨F, S, ρ, _, sr, er, hw, fun x S1 h1 F1 H1 v e1 s1 r1 => ?_⟩
  cases x <;> first | exact h1.elim | skip
  cases r1
  exact ⟨_, rfl, (l.step e1).now s1 h1 rfl⟩
theorem s_slc {m : Bool} {lo hi : Option Expr} {wl wh : Env → Sto → (Option Int → Sto → Prop) → Prop} {p2 : Pos} (ha : PE X a (tE X.K cls wa)) (hl : PO X lo (tO X.K cls wl)) (hh : PO X hi (tO X.K cls wh)) :
    PE X (.Subscript a (.Slice lo hi none p2) pos) (tE X.K cls fun ρ S R => wa ρ S fun x S1 => wl ρ S1 fun lo S2 => wh ρ S2 fun hi S3 => slcW m x lo hi S3 R) := by
  obtain ⟨r, hr, hq⟩ := sl_ok (X := X) (cls := cls) m
  refine (pe_slice hr ha hl hh).imp fun σ H Q ⟨F, S, ρ, R, sr, er, hw, l⟩ => ⟨F, S, ρ, _, sr, er, hw, fun x S1 h1 F1 H1 v e1 s1 r1 => ?_⟩
  refine ⟨F1, S1, ρ, _, s1, er.ext (e1.f sr), h1, fun y S2 h2 F2 H2 y' e2 s2 r2 => ?_⟩
  refine ⟨F2, S2, ρ, _, s2, er.ext ((e1.trans e2).f sr), h2, fun z S3 h3 F3 H3 z' e3 s3 r3 => ?_⟩
  cases r2; cases r3
  exact hq F3 H3 S3 v x y z R Q s3 (r1.ext ((e2.trans e3).f s1)) h3 (l.step ((e1.trans e2).trans e3)).lq
/-- a built-in -/
theorem s_blt {p : Pos} (bl : Blt) (hc : X.calm = true) (hg : Gl X bl.nm) (hm : X.mg bl.nm = none) (h : PA X (e :: es) (tA X.K cls wr)) (he : starEach (e :: es) X.env = (false, eval e X.env) :: starEach es X.env) (hpl : (backTo pos (starEach es X.env)).any (·.1) = false) :
    PE X (.Call (.Name bl.nm p) (e :: es) [] pos) (tE X.K cls fun ρ S R => wr ρ S fun us S1 => bltW bl us S1 R) := by
  obtain ⟨r, hr, hq⟩ := blt_ok (X := X) (cls := cls) hc bl
  have key : PE X (.Call (.Name bl.nm p) (e :: es) [] pos) (tCB r (tA X.K cls wr)) := by
    cases bl with
    | len => exact pe_callB hr hg hm PySem.boot_len h (by decide) (by decide) he hpl
    | int => exact pe_callTy hr hg hm (by decide +kernel) h (by decide) (by decide) he hpl
    | max2 => exact pe_callB hr hg hm (by decide +kernel) h (by decide) (by decide) he hpl
    | min2 => exact pe_callB hr hg hm (by decide +kernel) h (by decide) (by decide) he hpl
    | all => exact pe_callB hr hg hm (by decide +kernel) h (by decide) (by decide) he hpl
    | any => exact pe_callB hr hg hm (by decide +kernel) h (by decide) (by decide) he hpl
    | list m => cases m <;> exact pe_callTy hr hg hm (by decide +kernel) h (by decide) (by decide) he hpl
    | tuple => exact pe_callTy hr hg hm (by decide +kernel) h (by decide) (by decide) he hpl
    | abs => exact pe_callB hr hg hm (by decide +kernel) h (by decide) (by decide) he hpl
    | sorti m => cases m <;> exact pe_callB hr hg hm (by decide +kernel) h (by decide) (by decide) he hpl
    | sortd m => cases m <;> exact pe_callB hr hg hm (by decide +kernel) h (by decide) (by decide) he hpl
  exact key.imp fun σ H Q ⟨F, S, ρ, R, sr, er, hw, l⟩ => ⟨F, S, ρ, _, sr, er, hw, fun us S1 h1 F1 H1 vs e1 s1 r1 => hq F1 H1 S1 vs us R Q s1 r1 h1 (l.step e1).lq⟩
end
end Mm
/-! MmF: calls, instances, comprehensions, statements -/
namespace Mm
open PySem PySem.Spec PyProof.Rows L2
section
variable {X : Cx} {cls : Anc} {a b c e o : Expr} {wa wb wc wo : Env → Sto → Post → Prop} {pos apos cpos : Pos} {es : List Expr} {wr : Env → Sto → (List U → Sto → Prop) → Prop}
/-- isinstance(x, T), T a built-in class -/
theorem ty_ok {F : Addr → Prop} {H : Hp} {S : Sto} {v : V} {x : U} {t : String} (sr : SR X.K cls F H S) (rx : VRel X.K F H v x) (h : tyOf S x = some t) : TyX X.K H v (.type t) := by
  cases rx with
  | non => cases h; exact .base .non
  | bl b => cases h; exact .base (.bl _)
  | int i => cases h; exact .base (.int _)
  | str s => cases h; exact .base (.str _)
  | tup h1 r =>
    cases h
    rcases h1 with ⟨_, h1⟩ | (h1 | ⟨_, h1⟩) | ⟨o, its, n, hk, hc, _⟩
    · exact .base (.tup h1)
    · cases h1
    · cases h1
    · exact .kTuple hk hc
  | lst h1 h2 r => cases h; exact .base (.lst h2)
  | ls h1 r =>
    cases h
    rcases h1 with ⟨_, o, h1⟩ | (h1 | ⟨_, h1⟩) | ⟨o, its, n, hk, hc, _⟩
    · exact .base (.frz h1)
    · cases h1
    · cases h1
    · exact .kList hk hc
  | ref a =>
    simp only [tyOf] at h
    split at h <;> first | (cases h; done) | skip
    · next e =>
      cases h
      obtain ⟨vs, h1, _⟩ := sr.sto a _ e
      exact .base (.lst h1)
    · next e =>
      cases h
      obtain ⟨vs, h1, _⟩ := sr.sto a _ e
      exact .base (.dK h1)
  | dct h1 h2 h3 r => simp [tyOf, U.ty] at h
theorem s_isi {t : String} {nm : Str} {p p2 : Pos} (hg : Gl X "isinstance") (hm : X.mg "isinstance" = none) (hg2 : Gl X nm) (hm2 : X.mg nm = none) (hv : bootBuiltins nm = some (.type t)) (hn : nm ≠ "__name__") (hd : (nm == ("__debug__" : Str)) = false)
    (ha : PE X a (tE X.K cls wa)) (hs : starEach [a, .Name nm p2] X.env = (false, eval a X.env) :: starEach [.Name nm p2] X.env) (hpl : (backTo pos (starEach [.Name nm p2] X.env)).any (·.1) = false) :
    PE X (.Call (.Name "isinstance" p) [a, .Name nm p2] [] pos) (tE X.K cls fun ρ S R => wa ρ S fun x S1 => ∃ t' b, tyOf S1 x = some t' ∧ kitB t' t = some b ∧ R (.bl b) S1) := by
  have key := pe_callB (p := p) (pos := pos) call_isi hg hm (by decide +kernel) (pa_cons ha (pa_cons (pe_bltn (v := V.ty t) (pos := p2) hg2 hm2 hv rfl hn hd) pa_nil) hs) (by decide) (by decide) hs hpl
  refine key.imp fun σ H Q ⟨F, S, ρ, R, sr, er, hw, l⟩ => ⟨F, S, ρ, _, sr, er, hw, fun x S1 h1 F1 H1 v e1 s1 r1 => ?_⟩
  obtain ⟨t', b, h2, h3, h4⟩ := h1
  exact ⟨v, .ty t, .type t', .type t, b, rfl, .ty t, ty_ok s1 r1 h2, kit_ty h3, (l.step e1).now s1 h4 (.bl b)⟩
/-- a built-in method -/
theorem mth_slot (m : Mth) : PlainAttrs m.ty ∧ Slot m.ty m.nm m.id ∧ typeOf (.builtin m.id) = pure (.type "method_descriptor") := by
  cases m with
  | append => exact ⟨PySem.F.plainAttrs_list, PySem.F.slot_list_append, PySem.F.type_list_append⟩
  | pop => exact ⟨PySem.F.plainAttrs_list, PySem.F.slot_list_pop, PySem.F.type_list_pop⟩
  | extend => exact ⟨PySem.F.plainAttrs_list, PySem.F.slot_list_extend, PySem.F.type_list_extend⟩
  | join => exact ⟨PySem.F.plainAttrs_str, PySem.F.slot_str_join, PySem.F.type_str_join⟩
  | insert => exact ⟨PySem.F.plainAttrs_list, PySem.F.slot_list_insert, PySem.F.type_list_insert⟩
  | remove => exact ⟨PySem.F.plainAttrs_list, PySem.F.slot_list_remove, PySem.F.type_list_remove⟩
theorem s_mth0 (m : Mth) (ho : PE X o (tE X.K cls wo)) (hbase : attributeBase o m.nm X.env (eval o X.env) = eval o X.env) (hline : (apos.endLine == cpos.line) = true) :
    PE X (.Call (.Attribute o m.nm apos) [] [] cpos) (tE X.K cls fun ρ S R => wo ρ S fun x S1 => mthTy m x S1 ∧ mthW m x [] S1 R) := by
  obtain ⟨r, hr, hq⟩ := mth_ok (X := X) (cls := cls) m
  obtain ⟨pa, sl, hty⟩ := mth_slot m
  refine (pe_bm0 pa sl hty hr ho hbase hline).imp fun σ H Q ⟨F, S, ρ, R, sr, er, hw, l⟩ => ⟨F, S, ρ, _, sr, er, hw, fun x S1 h1 F1 H1 v e1 s1 r1 => ⟨mth_ty m s1 r1 h1.1, hq F1 H1 S1 v x [] [] R Q s1 r1 .nil h1.2 (l.step e1).lq⟩⟩
theorem s_mth (m : Mth) (ho : PE X o (tE X.K cls wo)) (h : PA X (e :: es) (tA X.K cls wr)) (hbase : attributeBase o m.nm X.env (eval o X.env) = eval o X.env) (hline : (apos.endLine == cpos.line) = true)
    (hfew : ((backTo cpos (starEach (e :: es) X.env)).all (fun x => !x.1) && (backToKw cpos (keywordEach [] X.env)).all (fun x => x.1.isSome)
      && decide ((e :: es).length + ([] : List Keyword).length + (if ([] : List Keyword).isEmpty then 0 else 1) < 30)) = true) (hs : starEach (e :: es) X.env = (false, eval e X.env) :: starEach es X.env) (hplain : (backTo cpos (starEach es X.env)).any (·.1) = false) :
    PE X (.Call (.Attribute o m.nm apos) (e :: es) [] cpos) (tE X.K cls fun ρ S R => wo ρ S fun x S1 => mthTy m x S1 ∧ wr ρ S1 fun us S2 => mthW m x us S2 R) := by
  obtain ⟨r, hr, hq⟩ := mth_ok (X := X) (cls := cls) m
  obtain ⟨pa, sl, hty⟩ := mth_slot m
  refine (pe_bm pa sl hty hr ho h hbase hfew hline hs hplain).imp fun σ H Q ⟨F, S, ρ, R, sr, er, hw, l⟩ => ⟨F, S, ρ, _, sr, er, hw, fun x S1 h1 F1 H1 v e1 s1 r1 => ⟨mth_ty m s1 r1 h1.1, F1, S1, ρ, _, s1, er.ext (e1.f sr), h1.2, fun us S2 h2 F2 H2 vs e2 s2 r2 => ?_⟩⟩
  exact hq F2 H2 S2 v x vs us R Q s2 (r1.ext (e2.f s1)) r2 h2 (l.step (e1.trans e2)).lq
/-- x[::-1], repr(x) -/
theorem s_rev {m : Bool} {k : Nat} {p1 p2 p3 : Pos} (ha : PE X a (tE X.K cls wa)) : PE X (.Subscript a (.Slice none none (some (.UnaryOp .USub (.Constant (.int 1) k p1) p2)) p3) pos) (tE X.K cls fun ρ S R => wa ρ S fun x S1 => revW m x S1 R) := by
  refine (pe_revL ha).imp fun σ H Q ⟨F, S, ρ, R, sr, er, hw, l⟩ => ⟨F, S, ρ, _, sr, er, hw, fun x S1 h1 F1 H1 v e1 s1 r1 => ?_⟩
  obtain ⟨xs, h2, h3⟩ := h1
  obtain ⟨b, vs, rfl, hb, rb⟩ := lisOf_ok s1 r1 h2
  exact ⟨b, vs, rfl, hb, alloc_ok (l.step e1).lq s1 h3 rb.reverse⟩
theorem s_revT {k : Nat} {p1 p2 p3 : Pos} (ha : PE X a (tE X.K cls wa)) : PE X (.Subscript a (.Slice none none (some (.UnaryOp .USub (.Constant (.int 1) k p1) p2)) p3) pos) (tE X.K cls fun ρ S R => wa ρ S fun x S1 => match x with | .tup xs => R (.tup xs.reverse) S1 | _ => False) := by
  refine (pe_revT ha).imp fun σ H Q ⟨F, S, ρ, R, sr, er, hw, l⟩ => ⟨F, S, ρ, _, sr, er, hw, fun x S1 h1 F1 H1 v e1 s1 r1 => ?_⟩
  cases x <;> first | exact h1.elim | skip
  cases r1 with
  | tup tb rb => exact ⟨_, _, rfl, tb.sq, newTup (l.step e1).lq s1 h1 rb.reverse⟩
theorem s_repr {p : Pos} {gd : Bool} (hgd : gd = true → X.A.guards = some []) (hu : X.A.units + 200 < cLine) (hg : Gl X "repr") (hm : X.mg "repr" = none) (ha : PE X a (tE X.K cls wa)) (hs : starEach [a] X.env = [(false, eval a X.env)]) :
    PE X (.Call (.Name "repr" p) [a] [] pos) (tE X.K cls fun ρ S R => wa ρ S fun x S1 => gd = true ∧ rprOk x ∧ R (.str x.rpr) S1) := by
  by_cases hb : gd = true
  · refine (pe_callB (call_rpr (hgd hb) hu) hg hm PyProof.Rows.bootS_repr (pa_cons ha pa_nil hs) (by decide) (by decide) hs rfl).imp fun σ H Q ⟨F, S, ρ, R, sr, er, hw, l⟩ => ⟨F, S, ρ, _, sr, er, hw, fun x S1 h1 F1 H1 v e1 s1 r1 => ?_⟩
    obtain ⟨_, ⟨h2, h3, h4, h5⟩, h6⟩ := h1
    refine ⟨v, x.py, rfl, r1.dp h2, data_lay _ h2, h3, by rw [dep_py]; exact h4, h5, ?_⟩
    have e : x.py.shown = ⟨x.rpr.toArray⟩ := by unfold U.rpr; simp
    rw [e]
    exact (l.step e1).now s1 h6 (.str _)
  · refine (pe_callB (id := "repr") (r := fun _ _ _ => False) (fun _ _ _ _ _ _ _ _ _ z => z.elim) hg hm PyProof.Rows.bootS_repr (pa_cons ha pa_nil hs) (by decide) (by decide) hs rfl).imp fun σ H Q ⟨F, S, ρ, R, sr, er, hw, l⟩ => ⟨F, S, ρ, _, sr, er, hw, fun x S1 h1 F1 H1 v e1 s1 r1 => absurd h1.1 hb⟩
/-! ### own defs -/
/-- an exception of the promise's kind stands: its dict is new and shared by nobody -/
def XAt (K : PySem.W.Frag) (F : Addr → Prop) (H : Hp) (S : Sto) (x : Xn) : Option Addr → Prop
  | some d => ∃ vs, H d = some (.xd vs) ∧ FRel K F H vs x.fs ∧ S d = none ∧ ¬ F d
  | none => x.fs = []
def LXs (K : PySem.W.Frag) (cls : Anc) (ecl : List Addr) (RX : Xn → Sto → Prop) (E : XK) : Prop := ∀ x S', RX x S' → ∀ F' H' d C, SR K cls F' H' S' → XAt K F' H' S' x d → ecl[x.c]? = some C → E (.ref C) d H'
def LX (K : PySem.W.Frag) (cls : Anc) (ecl : List Addr) (RX : RXn) (W : WX) : Prop := ∀ x ρ S', RX x ρ S' → ∀ F' H' σ' d C, SR K cls F' H' S' → ER K F' H' σ' ρ → XAt K F' H' S' x d → ecl[x.c]? = some C → W (.ref C) d σ' H'
/-- a promise over deep values, brought to the layer below -/
def liftSp (K : PySem.W.Frag) (cl ecl : List Addr) (sp : FS) : Sp := fun vs H Q E => vs.length = sp.n ∧ ∃ F S us R RX, SR K ⟨cl, F, H, S⟩ F H S ∧ VRels K F H vs us ∧ sp.sp us S R RX ∧ LXs K ⟨cl, F, H, S⟩ ecl RX E ∧ Lq K ⟨cl, F, H, S⟩ F H S R Q
theorem Lq.re {K : PySem.W.Frag} {F : Addr → Prop} {H : Hp} {S : Sto} {R : Post} {Q : VK} (l : Lq K cls F H S R Q) (sr : SR K cls F H S) : Lq K ⟨cls.cls, F, H, S⟩ F H S R Q :=
  fun u S' r F' H' v e sr' h => l u S' r F' H' v e (sr.back sr') h
theorem LX.at {K : PySem.W.Frag} {F1 : Addr → Prop} {H1 : Hp} {S1 : Sto} {ecl : List Addr} {RX : RXn} {W : WX} {ρ : Env} {σ : L2.St} (l : LX K cls ecl RX W) (s1 : SR K cls F1 H1 S1) (er : ER K F1 H1 σ ρ) :
    LXs K ⟨cls.cls, F1, H1, S1⟩ ecl (fun x S2 => RX x ρ S2) (WE W σ) := fun x S' r F' H' d C sr' xa hc =>
  l x ρ S' r F' H' σ d C (s1.back sr') (er.ext (sr'.anc.f s1.re)) xa hc
/-- FnOk, where b tells that nothing of repr is under way -/
structure FnB (b : Bool) (P : Program) (w : World) (K : PySem.W.Frag) (mg : Str → Option Value) (base : Heap) (k : Nat) (f : Addr) (fd : FuncData) (ps : List Str) (sp : Sp) : Prop where
  len : ∀ vs H Q E, sp vs H Q E → vs.length = ps.length
  run : ∀ (A : Around) (outer : List PySem.Env) (s : Shared) (H : Hp) (ar : Args) (us : List Value) (vs : List V) (Q : VK) (E : XK), (b = true → A.guards = some []) → Room k A → Env0 P w K mg base A outer s H → BindsTo s fd ar (ps.zip us) → Vals vs us → sp vs H Q E →
    codeAny (model P w) A (.call (.ref f) ar) (CR (L2.CX P w) outer P w H s Q E) s
section
variable {P : Program} {w : World} {K : PySem.W.Frag} {mg : Str → Option Value} {base : Heap} {j k : Nat} {f : Addr} {fd : FuncData} {ps : List Str} {sp : Sp} {b : Bool}
theorem FnB.of (h : FnOk P w K mg base (L2.CX P w) k f fd ps sp) : FnB b P w K mg base k f fd ps sp := ⟨h.len, fun A outer s H ar us vs Q E _ hr => h.run A outer s H ar us vs Q E hr⟩
theorem FnB.ok (h : FnB false P w K mg base k f fd ps sp) : FnOk P w K mg base (L2.CX P w) k f fd ps sp := ⟨h.len, fun A outer s H ar us vs Q E hr => h.run A outer s H ar us vs Q E (fun z => nomatch z) hr⟩
theorem FnB.mono (h : FnB b P w K mg base j f fd ps sp) (l : j ≤ k) : FnB b P w K mg base k f fd ps sp := ⟨h.len, fun A outer s H ar us vs Q E hg hr => h.run A outer s H ar us vs Q E hg (hr.mono l)⟩
theorem FnB.weak (h : FnB false P w K mg base k f fd ps sp) : FnB b P w K mg base k f fd ps sp := ⟨h.len, fun A outer s H ar us vs Q E _ hr => h.run A outer s H ar us vs Q E (fun z => nomatch z) hr⟩
end
section
variable {k : Nat} {f C : Addr} {fd : FuncData} {ps : List Str} {sp : Sp} {E : L2.St → XK} {x m : Str} {p : Pos} {to : TE} {t : TA} {gd : Bool}
/-- the callee runs -/
theorem run_fnB {pins : List (Addr × Obj)} {σ : L2.St} {H : Hp} {s : Shared} {Q : VK} {us : List Value} {vs : List V} (Fo : FnB gd X.prog X.w X.K X.mg X.base k f fd ps sp) (hgd : gd = true → X.A.guards = some []) (hr : Room k X.A) (hb : Binds X.K fd ps []) (hx : PassesAt (L2.CX X.prog X.w) X σ (E σ))
    (I : Inv X pins σ H s) (r : Vals vs us) (h : sp vs H Q (E σ)) : wpAny (model X.prog X.w) X.A (call (.ref f) us) (EP X pins σ Q) X.xe s := by
  have hl : us.length = ps.length := by rw [← r.length]; exact Fo.len _ _ _ _ h
  have bd := hb s us I.kIn (by rw [List.append_nil]; exact hl)
  rw [List.append_nil] at bd
  refine wpAny_call (codeAny_mono (Fo.run X.A X.stack s H ⟨us, []⟩ us vs Q (E σ) hgd hr I.env0 bd r h) fun rs s' hq => ?_)
  match rs, hq with
  | .error er, hq => exact hx pins H s er s' I hq
  | .ok (.ret u), hq => exact I.after hq
  | .ok .next, hq => exact hq.elim
  | .ok .brk, hq => exact hq.elim
  | .ok .cont, hq => exact hq.elim
theorem pc_B (Fo : FnB gd X.prog X.w X.K X.mg X.base k f fd ps sp) (hgd : gd = true → X.A.guards = some []) (hr : Room k X.A) (hg : Gl X x) (hm : X.mg x = some (.ref f)) (hk : PySem.W.keepIn X.K (.ref f) = true) (hb : Binds X.K fd ps []) (hx : ∀ σ, PassesAt (L2.CX X.prog X.w) X σ (E σ))
    (ha : PA X (e :: es) t) (hdb : (x == ("__debug__" : Str)) = false) (he : starEach (e :: es) X.env = (false, eval e X.env) :: starEach es X.env) (hpl : (backTo pos (starEach es X.env)).any (·.1) = false) :
    PE X (.Call (.Name x p) (e :: es) [] pos) (fun σ H Q => t σ H fun vs H1 => sp vs H1 Q (E σ)) := by
  refine ⟨fun pins s σ H Q I hh => ?_⟩
  refine wpAny_Call_Name_kw (ld_glob I hg hm ?_ hdb)
  refine PySem.W.callWith_K (h₀ := X.base) I.ok.mod.kin hk (thn (ha.run pos pins s σ H _ I hh) fun us s1 ⟨vs, H1, I1, rr, q⟩ => ⟨I1.kIn, ?_⟩) he hpl
  exact run_fnB Fo hgd hr hb (hx σ) I1 rr q
theorem pc_B0 (Fo : FnB gd X.prog X.w X.K X.mg X.base k f fd ps sp) (hgd : gd = true → X.A.guards = some []) (hr : Room k X.A) (hg : Gl X x) (hm : X.mg x = some (.ref f)) (hk : PySem.W.keepIn X.K (.ref f) = true) (hb : Binds X.K fd ps []) (hx : ∀ σ, PassesAt (L2.CX X.prog X.w) X σ (E σ)) (hdb : (x == ("__debug__" : Str)) = false) :
    PE X (.Call (.Name x p) [] [] pos) (fun σ H Q => sp [] H Q (E σ)) := by
  refine ⟨fun pins s σ H Q I hh => ?_⟩
  refine wpAny_Call_Name_kw (ld_glob I hg hm ?_ hdb)
  exact PySem.W.callWith_K0 I.kIn hk (run_fnB (vs := []) (us := []) Fo hgd hr hb (hx σ) I .nil hh)
/-- a method's call, the exceptional way told of the frame's values -/
theorem pm_S {pl : Sem Bool} (he : PE X o to) (c : Cls X.K C) (hm : Meth X.K C m f) (Fo : FnOk X.prog X.w X.K X.mg X.base (L2.CX X.prog X.w) k f fd ps sp) (hr : Room k X.A) (hb : Binds X.K fd ps []) (hx : ∀ σ, PassesAt (L2.CX X.prog X.w) X σ (E σ)) (ha : PA X (e :: es) t)
    (hst : starEach (e :: es) X.env = (false, eval e X.env) :: starEach es X.env) (hpl : (backTo pos (starEach es X.env)).any (·.1) = false)
    (ht : eval (.Call (.Attribute o m apos) (e :: es) [] pos) X.env = (do let ov ← eval o X.env; standAt apos.atName; let (f, first) ← holding [ov] (getMethod ov m pl); callWith pos f first (backTo pos (starEach (e :: es) X.env)) (backToKw pos (keywordEach [] X.env)))) :
    PE X (.Call (.Attribute o m apos) (e :: es) [] pos) (fun σ H Q => to σ H fun y H1 => ∃ a dx fs, y = .ref a ∧ H1 a = some (.ins C dx fs) ∧ fs.lookup m = none ∧ t σ H1 fun vs H2 => sp (.ref a :: vs) H2 Q (E σ)) := by
  refine ⟨fun pins s σ H Q I hh => ?_⟩
  refine PySem.W.methodCall_KW (pl := pl) (thn (he.run pins s σ H _ I hh) fun ou s1 ⟨oy, H1, I1, ry, a, dx, fs, ey, ea, l, q⟩ => ?_) ht
  subst ey
  obtain rfl : ou = Value.ref a := ry
  refine getmeth_ok I1 ea c hm l ?_
  refine PySem.W.callWith_K (first := [.ref a]) (h₀ := X.base) I1.ok.mod.kin hm.kp (thn (ha.run pos pins s1 σ H1 _ I1 q) fun us s2 ⟨vs, H2, I2, rr, q2⟩ => ⟨I2.kIn, ?_⟩) hst hpl
  exact run_fnS (vs := .ref a :: vs) (us := .ref a :: us) Fo hr hb (hx σ) I2 (.cons rfl rr) q2
theorem pm_S0 {pl : Sem Bool} (he : PE X o to) (c : Cls X.K C) (hm : Meth X.K C m f) (Fo : FnOk X.prog X.w X.K X.mg X.base (L2.CX X.prog X.w) k f fd ps sp) (hr : Room k X.A) (hb : Binds X.K fd ps []) (hx : ∀ σ, PassesAt (L2.CX X.prog X.w) X σ (E σ))
    (ht : eval (.Call (.Attribute o m apos) [] [] pos) X.env = (do let ov ← eval o X.env; standAt apos.atName; let (f, first) ← holding [ov] (getMethod ov m pl); callWith pos f first (backTo pos (starEach [] X.env)) (backToKw pos (keywordEach [] X.env)))) :
    PE X (.Call (.Attribute o m apos) [] [] pos) (fun σ H Q => to σ H fun y H1 => ∃ a dx fs, y = .ref a ∧ H1 a = some (.ins C dx fs) ∧ fs.lookup m = none ∧ sp [.ref a] H1 Q (E σ)) := by
  refine ⟨fun pins s σ H Q I hh => ?_⟩
  refine PySem.W.methodCall_KW (pl := pl) (thn (he.run pins s σ H _ I hh) fun ou s1 ⟨oy, H1, I1, ry, a, dx, fs, ey, ea, l, q⟩ => ?_) ht
  subst ey
  obtain rfl : ou = Value.ref a := ry
  refine getmeth_ok I1 ea c hm l ?_
  exact PySem.W.callWith_K0 (first := [.ref a]) I1.kIn hm.kp (run_fnS (vs := [.ref a]) (us := [.ref a]) Fo hr hb (hx σ) I1 (.cons rfl .nil) q)
end
variable {k : Nat} {f C : Addr} {fd : FuncData} {ps : List Str} {sp : FS} {x m : Str} {p : Pos} {ecl : List Addr} {RX : RXn} {W : WX} {gd : Bool}
theorem s_call (tk : Takes X W) (lx : LX X.K cls ecl RX W) (Fo : FnB gd X.prog X.w X.K X.mg X.base k f fd ps (liftSp X.K cls.cls ecl sp)) (hgd : gd = true → X.A.guards = some []) (hr : Room k X.A) (hg : Gl X x) (hm : X.mg x = some (.ref f)) (hk : PySem.W.keepIn X.K (.ref f) = true) (hb : Binds X.K fd ps [])
    (ha : PA X (e :: es) (tA X.K cls wr)) (hdb : (x == ("__debug__" : Str)) = false) (he : starEach (e :: es) X.env = (false, eval e X.env) :: starEach es X.env) (hpl : (backTo pos (starEach es X.env)).any (·.1) = false) :
    PE X (.Call (.Name x p) (e :: es) [] pos) (tE X.K cls fun ρ S R => wr ρ S fun us S1 => us.length = sp.n ∧ sp.sp us S1 R fun x S2 => RX x ρ S2) := by
  refine (pc_B (E := WE W) Fo hgd hr hg hm hk hb (fun σ => passAt tk σ) ha hdb he hpl).imp fun σ H Q ⟨F, S, ρ, R, sr, er, hw, l⟩ => ⟨F, S, ρ, _, sr, er, hw, fun us S1 h1 F1 H1 vs e1 s1 r1 => ?_⟩
  exact ⟨by rw [r1.length]; exact h1.1, F1, S1, us, R, _, s1.re, r1, h1.2, lx.at s1 (er.ext (e1.f sr)), (show Lq X.K cls F1 H1 S1 R Q from (l.step e1).lq).re s1⟩
theorem s_call0 (tk : Takes X W) (lx : LX X.K cls ecl RX W) (Fo : FnB gd X.prog X.w X.K X.mg X.base k f fd ps (liftSp X.K cls.cls ecl sp)) (hgd : gd = true → X.A.guards = some []) (hr : Room k X.A) (hg : Gl X x) (hm : X.mg x = some (.ref f)) (hk : PySem.W.keepIn X.K (.ref f) = true) (hb : Binds X.K fd ps [])
    (hdb : (x == ("__debug__" : Str)) = false) :
    PE X (.Call (.Name x p) [] [] pos) (tE X.K cls fun ρ S R => 0 = sp.n ∧ sp.sp [] S R fun x S2 => RX x ρ S2) := by
  refine (pc_B0 (E := WE W) Fo hgd hr hg hm hk hb (fun σ => passAt tk σ) hdb).imp fun σ H Q ⟨F, S, ρ, R, sr, er, hw, l⟩ => ?_
  exact ⟨hw.1, F, S, [], R, _, sr.re, .nil, hw.2, lx.at sr er, (show Lq X.K cls F H S R Q from l.lq).re sr⟩
/-- how o.m(..) is asked -/
theorem meth_eval {xs : List Expr} {env : PySem.Env} (hbase : attributeBase o m env (eval o env) = eval o env) (hline : (apos.endLine == pos.line) = true)
    (hfew : methodCallForm (xs.length + ([] : List Keyword).length) (backTo pos (starEach xs env)) (backToKw pos (keywordEach [] env)) = true) :
    eval (.Call (.Attribute o m apos) xs [] pos) env = (do
      let ov ← eval o env
      standAt apos.atName
      let (f, first) ← holding [ov] (getMethod ov m (do return (← importBound o env).getD true))
      callWith pos f first (backTo pos (starEach xs env)) (backToKw pos (keywordEach [] env))) := by
  rw [arm_eval_Call, hbase]
  have hpos : methodCallPos true o env apos pos = pure pos := by unfold methodCallPos; simp [hline]
  unfold methodCall
  rw [hfew, hpos]
  rfl
theorem fields_none {fs : List (Str × U)} {vfs : List (Str × V)} {F : Addr → Prop} {H : Hp} {K : PySem.W.Frag} {at_ : Str → Bool} {m : Str} (r : FRel K F H vfs fs) (h : ∀ y ∈ fs, at_ y.1 = true) (hm : at_ m = false) : vfs.lookup m = none := by
  refine r.lookup.2 ?_
  clear r
  induction fs with
  | nil => rfl
  | cons y fs ih =>
    obtain ⟨g, u⟩ := y
    rw [List.lookup_cons]
    cases e : m == g with
    | true =>
      have e' : m = g := by simpa using e
      have := h (g, u) List.mem_cons_self
      rw [← e', hm] at this; cases this
    | false => exact ih fun z hz => h z (List.mem_cons_of_mem _ hz)
theorem s_omt {c : Nat} {at_ : Str → Bool} (hcl : cls.cls[c]? = some C) (cl : Cls X.K C) (hm : Meth X.K C m f) (hat : at_ m = false) (tk : Takes X W) (lx : LX X.K cls ecl RX W) (Fo : FnOk X.prog X.w X.K X.mg X.base (L2.CX X.prog X.w) k f fd ps (liftSp X.K cls.cls ecl sp)) (hr : Room k X.A) (hb : Binds X.K fd ps [])
    (ho : PE X o (tE X.K cls wo)) (ha : PA X (e :: es) (tA X.K cls wr)) (hst : starEach (e :: es) X.env = (false, eval e X.env) :: starEach es X.env) (hpl : (backTo pos (starEach es X.env)).any (·.1) = false)
    (hbase : attributeBase o m X.env (eval o X.env) = eval o X.env) (hline : (apos.endLine == pos.line) = true)
    (hfew : methodCallForm ((e :: es).length + ([] : List Keyword).length) (backTo pos (starEach (e :: es) X.env)) (backToKw pos (keywordEach [] X.env)) = true) :
    PE X (.Call (.Attribute o m apos) (e :: es) [] pos) (tE X.K cls fun ρ S R => wo ρ S fun x S1 => ∃ a fs, x = .ref a ∧ S1 a = some (.ins c fs) ∧ (∀ y ∈ fs, at_ y.1 = true) ∧ wr ρ S1 fun us S2 => us.length + 1 = sp.n ∧ sp.sp (x :: us) S2 R fun x S3 => RX x ρ S3) := by
  refine (pm_S (E := WE W) ho cl hm Fo hr hb (fun σ => passAt tk σ) ha hst hpl (meth_eval hbase hline hfew)).imp fun σ H Q ⟨F, S, ρ, R, sr, er, hw, l⟩ => ⟨F, S, ρ, _, sr, er, hw, fun x S1 h1 F1 H1 v e1 s1 r1 => ?_⟩
  obtain ⟨a, fs, rfl, ha, hf, h2⟩ := h1
  cases r1
  obtain ⟨C', dx, vfs, hC, hH, rf⟩ := s1.sto a _ ha
  rw [hcl] at hC; cases hC
  refine ⟨a, dx, vfs, rfl, hH, fields_none rf hf hat, F1, S1, ρ, _, s1, er.ext (e1.f sr), h2, fun us S2 h2 F2 H2 vs e2 s2 r2 => ?_⟩
  have r3 : VRels X.K F2 H2 (V.ref a :: vs) (U.ref a :: us) := .cons (.ref a) r2
  exact ⟨by rw [r3.length]; exact h2.1, F2, S2, _, R, _, s2.re, r3, h2.2, lx.at s2 (er.ext ((e1.trans e2).f sr)), (show Lq X.K cls F2 H2 S2 R Q from (l.step (e1.trans e2)).lq).re s2⟩
theorem s_omt0 {c : Nat} {at_ : Str → Bool} (hcl : cls.cls[c]? = some C) (cl : Cls X.K C) (hm : Meth X.K C m f) (hat : at_ m = false) (tk : Takes X W) (lx : LX X.K cls ecl RX W) (Fo : FnOk X.prog X.w X.K X.mg X.base (L2.CX X.prog X.w) k f fd ps (liftSp X.K cls.cls ecl sp)) (hr : Room k X.A) (hb : Binds X.K fd ps [])
    (ho : PE X o (tE X.K cls wo))
    (hbase : attributeBase o m X.env (eval o X.env) = eval o X.env) (hline : (apos.endLine == pos.line) = true) :
    PE X (.Call (.Attribute o m apos) [] [] pos) (tE X.K cls fun ρ S R => wo ρ S fun x S1 => ∃ a fs, x = .ref a ∧ S1 a = some (.ins c fs) ∧ (∀ y ∈ fs, at_ y.1 = true) ∧ 1 = sp.n ∧ sp.sp [x] S1 R fun x S2 => RX x ρ S2) := by
  refine (pm_S0 (E := WE W) ho cl hm Fo hr hb (fun σ => passAt tk σ) (meth_eval hbase hline rfl)).imp fun σ H Q ⟨F, S, ρ, R, sr, er, hw, l⟩ => ⟨F, S, ρ, _, sr, er, hw, fun x S1 h1 F1 H1 v e1 s1 r1 => ?_⟩
  obtain ⟨a, fs, rfl, ha, hf, h2⟩ := h1
  cases r1
  obtain ⟨C', dx, vfs, hC, hH, rf⟩ := s1.sto a _ ha
  rw [hcl] at hC; cases hC
  refine ⟨a, dx, vfs, rfl, hH, fields_none rf hf hat, ?_⟩
  have r3 : VRels X.K F1 H1 [V.ref a] [U.ref a] := .cons (.ref a) .nil
  exact ⟨h2.1, F1, S1, _, R, _, s1.re, r3, h2.2, lx.at s1 (er.ext (e1.f sr)), (show Lq X.K cls F1 H1 S1 R Q from (l.step e1).lq).re s1⟩
/-- a new instance -/
theorem made_ok {F : Addr → Prop} {H : Hp} {S : Sto} {c : Nat} (sr : SR X.K cls F H S) (hcl : cls.cls[c]? = some C) {x dx : Addr} (hx : H x = none) (hd : H dx = none) (hne : dx ≠ x) :
    SR X.K cls F (upd (upd H dx (.own x)) x (.ins C dx [])) (S.put x (.ins c [])) ∧ Ext F H S F (upd (upd H dx (.own x)) x (.ins C dx [])) (S.put x (.ins c [])) ∧ FExt F H F (upd (upd H dx (.own x)) x (.ins C dx [])) := by
  have nFx := sr.notF hx
  have nFd := sr.notF hd
  have nSx := sr.notS hx
  have nSd := sr.notS hd
  have key : ∀ b, b ≠ x → b ≠ dx → upd (upd H dx (.own x)) x (.ins C dx []) b = H b := fun b h1 h2 => (upd_ne h1).trans (upd_ne h2)
  have kF : ∀ b, F b → b ≠ x ∧ b ≠ dx := fun b h => ⟨fun z => nFx (by rw [← z]; exact h), fun z => nFd (by rw [← z]; exact h)⟩
  have fe : FExt F H F (upd (upd H dx (.own x)) x (.ins C dx [])) := ⟨fun _ h => h, fun b h => key b (kF b h).1 (kF b h).2⟩
  have ex : Ext F H S F (upd (upd H dx (.own x)) x (.ins C dx [])) (S.put x (.ins c [])) := ⟨fun _ h => h, fun b o h h' => by
    have h1 : b ≠ x := fun z => by rw [z, hx] at h; cases h
    have h2 : b ≠ dx := fun z => by rw [z, hd] at h; cases h
    exact ⟨(key b h1 h2).trans h, (Sto.put_ne h1).trans h', id⟩⟩
  refine ⟨⟨fun b h => (Sto.put_ne (kF b h).1).trans (sr.sep b h), fun b h => ?_, fun b o h => ?_, sr.anc.trans ex⟩, ex, fe⟩
  · obtain ⟨o, e⟩ := sr.frz b h
    exact ⟨o, (key b (kF b h).1 (kF b h).2).trans e⟩
  · by_cases hb : b = x
    · subst hb
      rw [Sto.put_same] at h; cases h
      exact ⟨C, dx, [], hcl, upd_same, .nil⟩
    · rw [Sto.put_ne hb] at h
      refine (sr.sto b o h).ext fe (key b hb fun z => ?_)
      rw [z, nSd] at h; cases h
theorem s_mk {c : Nat} (hcl : cls.cls[c]? = some C) (M : Mk X.K C f) (Fo : FnOk X.prog X.w X.K X.mg X.base (L2.CX X.prog X.w) k f fd ps (liftSp X.K cls.cls ecl sp)) (hr : Room (k + 1) X.A) (hg : Gl X x) (hm : X.mg x = some (.ref C)) (hb : Binds X.K fd ps []) (hx : Passes (L2.CX X.prog X.w) X E0)
    (ha : PA X (e :: es) (tA X.K cls wr)) (hdb : (x == ("__debug__" : Str)) = false) (he : starEach (e :: es) X.env = (false, eval e X.env) :: starEach es X.env) (hpl : (backTo pos (starEach es X.env)).any (·.1) = false) :
    PE X (.Call (.Name x p) (e :: es) [] pos) (tE X.K cls fun ρ S R => wr ρ S fun us S1 => us.length + 1 = sp.n ∧ ∀ a, S1 a = none → sp.sp (.ref a :: us) (S1.put a (.ins c [])) (fun u S2 => u = .non ∧ R (.ref a) S2) fun _ _ => False) := by
  refine (pe_make M Fo hr hg hm hb .nil hx ha hdb he hpl).imp fun σ H Q ⟨F, S, ρ, R, sr, er, hw, l⟩ => ⟨F, S, ρ, _, sr, er, hw, fun us S1 h1 F1 H1 vs e1 s1 r1 => ?_⟩
  intro a dx ha hd hne
  show liftSp X.K cls.cls ecl sp (V.ref a :: (vs ++ [])) _ _ E0
  rw [List.append_nil]
  obtain ⟨s2, e2, f2⟩ := made_ok s1 hcl ha hd hne
  have h2 := h1.2 a (s1.notS ha)
  have r3 : VRels X.K F1 _ (V.ref a :: vs) (U.ref a :: us) := .cons (.ref a) (r1.ext f2)
  refine ⟨by rw [r3.length]; exact h1.1, F1, _, _, _, _, s2.re, r3, h2, fun _ _ z => z.elim, fun u S3 h3 F3 H3 v e3 s3 r => ?_⟩
  obtain ⟨rfl, h4⟩ := h3
  cases r
  exact ⟨rfl, (l.step (e1.trans (e2.trans e3))).now (s2.back s3) h4 (.ref a)⟩
/-- o.f -/
theorem s_fld {at_ : Nat → Str → Bool} {f : Str} (hat : ∀ c C, cls.cls[c]? = some C → Cls X.K C ∧ (at_ c f = true → NoAttr X.K C f)) (ho : PE X o (tE X.K cls wo)) (hb : attributeBase o f X.env (eval o X.env) = eval o X.env) :
    PE X (.Attribute o f pos) (tE X.K cls fun ρ S R => wo ρ S fun x S1 => ∃ a c fs u, x = .ref a ∧ S1 a = some (.ins c fs) ∧ at_ c f = true ∧ fs.lookup f = some u ∧ R u S1) := by
  refine (pe_fld ho hb).imp fun σ H Q ⟨F, S, ρ, R, sr, er, hw, l⟩ => ⟨F, S, ρ, _, sr, er, hw, fun x S1 h1 F1 H1 v e1 s1 r1 => ?_⟩
  obtain ⟨a, c, fs, u, rfl, ha, h2, h3, h4⟩ := h1
  cases r1
  obtain ⟨C, dx, vfs, hC, hH, rf⟩ := s1.sto a _ ha
  obtain ⟨w, hw, rw'⟩ := rf.lookup.1 u h3
  exact ⟨a, C, dx, vfs, w, rfl, hH, (hat c C hC).1, (hat c C hC).2 h2, hw, (l.step e1).now s1 h4 rw'⟩
/-- the ghost: a list that is not changed any more -/
theorem s_frz (ha : PE X a (tE X.K cls wa)) : PE X a (tE X.K cls fun ρ S R => wa ρ S fun x S1 => ∃ b xs, x = .ref b ∧ S1 b = some (.lst xs) ∧ R (.lst xs) (S1.del b)) := by
  refine ha.imp fun σ H Q ⟨F, S, ρ, R, sr, er, hw, l⟩ => ⟨F, S, ρ, _, sr, er, hw, fun x S1 h1 F1 H1 v e1 s1 r1 => ?_⟩
  obtain ⟨b, xs, rfl, hb, h2⟩ := h1
  cases r1
  obtain ⟨s2, e2, r2⟩ := s1.freeze hb
  exact l _ _ h2 _ _ _ (e1.trans e2) s2 r2
/-- f-strings -/
theorem s_fmt (ha : PE X a (tE X.K cls wa)) : PE X (.FormattedValue a (-1) none pos) (tE X.K cls fun ρ S R => wa ρ S fun x S1 => fmtW x S1 R) := by
  refine (pe_fmt ha).imp fun σ H Q ⟨F, S, ρ, R, sr, er, hw, l⟩ => ⟨F, S, ρ, _, sr, er, hw, fun x S1 h1 F1 H1 v e1 s1 r1 => ?_⟩
  cases x <;> first | exact h1.elim | skip
  cases r1
  exact .inl ⟨_, rfl, by show Array.size _ ≤ _; simpa using h1.1, (l.step e1).now s1 h1.2 (.str _)⟩
abbrev WJ := List Nat → Env → Sto → (List Nat → Sto → Prop) → Prop
/-- the parts' judgements -/
inductive PF (X : Cx) (cls : Anc) : List Expr → WJ → Prop where
  | nil : PF X cls [] fun acc _ S R => R acc S
  | cons {e : Expr} {es : List Expr} {wa : Env → Sto → Post → Prop} {wr : WJ} (h : PE X e (tE X.K cls wa)) (r : PF X cls es wr) :
      PF X cls (e :: es) fun acc ρ S R => wa ρ S fun x S1 => match x with | .str s => (acc ++ s).length ≤ sizeLine ∧ wr (acc ++ s) ρ S1 R | _ => False
theorem pf_pj {es : List Expr} {wr : WJ} (h : PF X cls es wr) : ∃ ts, PJ X es ts ∧ ∀ (acc : List Nat) (σ : L2.St) (H : Hp) (F : Addr → Prop) (S : Sto) (ρ : Env) (R : List Nat → Sto → Prop) (Q : Str → Hp → Prop), SR X.K cls F H S → ER X.K F H σ ρ → wr acc ρ S R →
    (∀ s S', R s S' → ∀ F' H', Ext F H S F' H' S' → SR X.K cls F' H' S' → Q ⟨s.toArray⟩ H') → tJs ts ⟨acc.toArray⟩ σ H Q := by
  induction h with
  | nil => exact ⟨[], .nil, fun acc σ H F S ρ R Q sr er hw hq => hq acc S hw F H .refl sr⟩
  | @cons e es wa wr he r ih =>
    obtain ⟨ts, hj, ih⟩ := ih
    refine ⟨_, .cons he hj, fun acc σ H F S ρ R Q sr er hw hq => ⟨F, S, ρ, _, sr, er, hw, fun x S1 h1 F1 H1 v e1 s1 r1 => ?_⟩⟩
    cases x <;> first | exact h1.elim | skip
    next s =>
    cases r1
    have e : (⟨acc.toArray⟩ ++ ⟨s.toArray⟩ : Str) = ⟨(acc ++ s).toArray⟩ := by
      show Str.mk (acc.toArray ++ s.toArray) = _
      simp
    refine ⟨_, rfl, ?_, ?_⟩
    · rw [e]; show Array.size _ ≤ _; simpa using h1.1
    · rw [e]
      exact ih (acc ++ s) σ H1 F1 S1 ρ R Q s1 (er.ext (e1.f sr)) h1.2 fun t S2 h2 F2 H2 e2 s2 => hq t S2 h2 F2 H2 (e1.trans e2) s2
theorem s_fstr {v1 v2 : Expr} {rest : List Expr} {wr : WJ} (h : PF X cls (v1 :: v2 :: rest) wr) : PE X (.JoinedStr (v1 :: v2 :: rest) pos) (tE X.K cls fun ρ S R => wr [] ρ S fun s S1 => R (.str s) S1) := by
  obtain ⟨ts, hj, hk⟩ := pf_pj h
  refine (pe_joined hj).imp fun σ H Q ⟨F, S, ρ, R, sr, er, hw, l⟩ => ?_
  exact hk [] σ H F S ρ _ _ sr er hw fun s S1 h1 F1 H1 e1 s1 => (l.step e1).now s1 h1 (.str s)
/-! ### tests -/
theorem s_val {w : Env → Sto → Post → Prop} (h : PE X e (tE X.K cls w)) (he : ∀ whole, isTrue e X.env whole = (do let v ← whole; standAt e.pos; holding [v] (truthy v))) :
    PT X e (tB' X.K cls fun ρ S R => w ρ S fun x S1 => match x with | .bl b => R b S1 | _ => False) := by
  refine (pt_val h he).imp fun σ H Q ⟨F, S, ρ, R, sr, er, hw, l⟩ => ⟨F, S, ρ, _, sr, er, hw, fun x S1 h1 F1 H1 v e1 s1 r1 => ?_⟩
  cases x <;> first | exact h1.elim | skip
  cases r1
  exact ⟨_, rfl, (l.step e1).now s1 h1 rfl⟩
theorem s_tru {w : Env → Sto → Post → Prop} (h : PE X e (tE X.K cls w)) (he : ∀ whole, isTrue e X.env whole = (do let v ← whole; standAt e.pos; holding [v] (truthy v))) :
    PT X e (tB' X.K cls fun ρ S R => w ρ S fun x S1 => ∃ b, truOf S1 x = some b ∧ R b S1) := by
  refine (pt_truth h he).imp fun σ H Q ⟨F, S, ρ, R, sr, er, hw, l⟩ => ⟨F, S, ρ, _, sr, er, hw, fun x S1 h1 F1 H1 v e1 s1 r1 => ?_⟩
  obtain ⟨b, h2, h3⟩ := h1
  exact ⟨b, tru_V s1 r1 h2, (l.step e1).now s1 h3 rfl⟩
variable {wt wt' : Env → Sto → (Bool → Sto → Prop) → Prop} {rest : List Expr}
theorem s_tnot (h : PT X a (tB' X.K cls wt)) : PT X (.UnaryOp .Not a pos) (tB' X.K cls fun ρ S R => wt ρ S fun b S1 => R (!b) S1) := by
  refine (pt_not h).imp fun σ H Q ⟨F, S, ρ, R, sr, er, hw, l⟩ => ⟨F, S, ρ, _, sr, er, hw, fun x S1 h1 F1 H1 v e1 s1 r1 => ?_⟩
  cases r1
  exact (l.step e1).now s1 h1 rfl
theorem s_tand1 (h : PT X a (tB' X.K cls wt)) : PW X (.BoolOp .And [a] pos) (tB' X.K cls wt) := pw_and1 h
theorem s_tor1 (h : PT X a (tB' X.K cls wt)) : PW X (.BoolOp .Or [a] pos) (tB' X.K cls wt) := pw_or1 h
theorem s_tand (h : PT X a (tB' X.K cls wt)) (h' : PW X (.BoolOp .And (b :: rest) pos) (tB' X.K cls wt')) : PW X (.BoolOp .And (a :: b :: rest) pos) (tB' X.K cls fun ρ S R => wt ρ S fun k S1 => if k then wt' ρ S1 R else R false S1) := by
  refine (pw_and h h').imp fun σ H Q ⟨F, S, ρ, R, sr, er, hw, l⟩ => ⟨F, S, ρ, _, sr, er, hw, fun k S1 h1 F1 H1 v e1 s1 r1 => ?_⟩
  cases r1
  cases k with
  | true => exact ⟨F1, S1, ρ, R, s1, er.ext (e1.f sr), h1, l.step e1⟩
  | false => exact (l.step e1).now s1 h1 rfl
theorem s_tor (h : PT X a (tB' X.K cls wt)) (h' : PW X (.BoolOp .Or (b :: rest) pos) (tB' X.K cls wt')) : PW X (.BoolOp .Or (a :: b :: rest) pos) (tB' X.K cls fun ρ S R => wt ρ S fun k S1 => if k then R true S1 else wt' ρ S1 R) := by
  refine (pw_or h h').imp fun σ H Q ⟨F, S, ρ, R, sr, er, hw, l⟩ => ⟨F, S, ρ, _, sr, er, hw, fun k S1 h1 F1 H1 v e1 s1 r1 => ?_⟩
  cases r1
  cases k with
  | false => exact ⟨F1, S1, ρ, R, s1, er.ext (e1.f sr), h1, l.step e1⟩
  | true => exact (l.step e1).now s1 h1 rfl
end
end Mm
/-! MmG: what is walked, comprehensions, statements -/
namespace Mm
open PySem PySem.Spec PyProof.Rows L2
section
variable {X : Cx} {cls : Anc} {a b c e o l : Expr} {wa wb wc wo wl : Env → Sto → Post → Prop} {pos apos cpos : Pos} {tg : Expr}
/-- a walked thing gives the items xs while gd holds -/
structure Wk (K : PySem.W.Frag) (cls : Anc) (J : L2.It) (xs : List U) (gd : Sto → Prop) (F0 : Addr → Prop) (H0 : Hp) : Prop where
  go : ∀ i F H S, FExt F0 H0 F H → SR K cls F H S → gd S → i < xs.length → J.go i H
  yld : ∀ i F H S x H', FExt F0 H0 F H → SR K cls F H S → gd S → i < xs.length → J.yld i H x H' → ∃ F' u, xs[i]? = some u ∧ Ext F H S F' H' S ∧ SR K cls F' H' S ∧ VRel K F' H' x u
  stop : ∀ i F H S, FExt F0 H0 F H → SR K cls F H S → gd S → xs.length ≤ i → J.stop i H
abbrev WI := Env → Sto → (List U → (Sto → Prop) → Sto → Prop) → Prop
/-- a walk, brought to the layer below -/
def tI (K : PySem.W.Frag) (cls : Anc) (w : WI) : TI := fun σ H R => ∃ F S ρ P, SR K cls F H S ∧ ER K F H σ ρ ∧ w ρ S P ∧
  ∀ xs gd S1, P xs gd S1 → ∀ F1 H1 J, Ext F H S F1 H1 S1 → SR K cls F1 H1 S1 → gd S1 → Wk K cls J xs gd F1 H1 → R J H1
theorem wk_list {K : PySem.W.Frag} {F : Addr → Prop} {H : Hp} {a : Addr} {xs : List U} {gd : Sto → Prop} (h : ∀ F1 H1 S1, FExt F H F1 H1 → SR K cls F1 H1 S1 → gd S1 → ∃ vs, SqL K H1 a vs ∧ VRels K F1 H1 vs xs) : Wk K cls (Itl K a) xs gd F H where
  go := fun i F1 H1 S1 e sr g hi => by
    obtain ⟨vs, h1, h3⟩ := h F1 H1 S1 e sr g
    obtain ⟨v, hv, _⟩ := h3.get (List.getElem?_eq_getElem hi)
    exact ⟨vs, v, h1, hv⟩
  yld := fun i F1 H1 S1 x H' e sr g hi hy => by
    obtain ⟨rfl, hy⟩ := hy
    obtain ⟨vs, h1, h3⟩ := h F1 _ S1 e sr g
    obtain ⟨u, hu, ru⟩ := h3.get' (hy vs h1)
    exact ⟨F1, u, hu, .refl, sr, ru⟩
  stop := fun i F1 H1 S1 e sr g hi => by
    obtain ⟨vs, h1, h3⟩ := h F1 H1 S1 e sr g
    exact ⟨vs, h1, by rw [h3.length]; exact hi⟩
theorem wk_tup {K : PySem.W.Frag} {F : Addr → Prop} {H : Hp} {a : Addr} {xs : List U} {gd : Sto → Prop} (h : ∀ F1 H1 S1, FExt F H F1 H1 → SR K cls F1 H1 S1 → gd S1 → ∃ vs, SqT K H1 a vs ∧ VRels K F1 H1 vs xs) : Wk K cls (Itt K a) xs gd F H where
  go := fun i F1 H1 S1 e sr g hi => by
    obtain ⟨vs, h1, h3⟩ := h F1 H1 S1 e sr g
    obtain ⟨v, hv, _⟩ := h3.get (List.getElem?_eq_getElem hi)
    exact ⟨vs, v, h1, hv⟩
  yld := fun i F1 H1 S1 x H' e sr g hi hy => by
    obtain ⟨rfl, hy⟩ := hy
    obtain ⟨vs, h1, h3⟩ := h F1 _ S1 e sr g
    obtain ⟨u, hu, ru⟩ := h3.get' (hy vs h1)
    exact ⟨F1, u, hu, .refl, sr, ru⟩
  stop := fun i F1 H1 S1 e sr g hi => by
    obtain ⟨vs, h1, h3⟩ := h F1 H1 S1 e sr g
    exact ⟨vs, h1, by rw [h3.length]; exact hi⟩
theorem wk_rng {K : PySem.W.Frag} {F : Addr → Prop} {H : Hp} {lo : Int} {n : Nat} {gd : Sto → Prop} : Wk K cls (Itr lo n) (rngU lo n) gd F H where
  go := fun i F1 H1 S1 e sr g hi => by
    show i < n
    simpa [rngU] using hi
  yld := fun i F1 H1 S1 x H' e sr g hi hy => by
    obtain ⟨rfl, rfl⟩ := hy
    have hi' : i < n := by simpa [rngU] using hi
    exact ⟨F1, .int (lo + (i : Int)), by simp [rngU, hi'], .refl, sr, .int _⟩
  stop := fun i F1 H1 S1 e sr g hi => by
    show n ≤ i
    simpa [rngU] using hi
theorem wk_str {K : PySem.W.Frag} {F : Addr → Prop} {H : Hp} {s : List Nat} {gd : Sto → Prop} : Wk K cls (Its ⟨s.toArray⟩) (s.map fun c => U.str [c]) gd F H where
  go := fun i F1 H1 S1 e sr g hi => by
    show i < s.toArray.size
    simpa using hi
  yld := fun i F1 H1 S1 x H' e sr g hi hy => by
    obtain ⟨rfl, c, hc, rfl⟩ := hy
    have hc' : s[i]? = some c := by simpa using hc
    exact ⟨F1, .str [c], by simp [hc'], .refl, sr, .str [c]⟩
  stop := fun i F1 H1 S1 e sr g hi => by
    show s.toArray.size ≤ i
    simpa using hi
theorem keyV_rel {K : PySem.W.Frag} {F : Addr → Prop} {H : Hp} (k : L2.Key) : VRel K F H (kV k) (keyV k) := by
  cases k with
  | inl i => exact .int i
  | inr x =>
    have e : VRel K F H (V.str ⟨x.cps.toList.toArray⟩) (U.str x.cps.toList) := .str _
    rw [Array.toArray_toList] at e
    exact e
theorem wk_keys {K : PySem.W.Frag} {F : Addr → Prop} {H : Hp} {d : Addr} {o : Obj} {kvs : List (L2.Key × V)} {ks : List L2.Key} {gd : Sto → Prop} (hk : kvs.map (·.1) = ks) (h : ∀ F1 H1, FExt F H F1 H1 → H1 d = some (.frz o (.dK kvs))) : Wk K cls (Itk d o kvs) (ks.map keyV) gd F H where
  go := fun i F1 H1 S1 e sr g hi => ⟨h _ _ e, by rw [← hk, List.length_map, List.length_map] at hi; exact hi⟩
  yld := fun i F1 H1 S1 x H' e sr g hi hy => by
    obtain ⟨rfl, k, v, h1, rfl⟩ := hy
    refine ⟨F1, keyV k, ?_, .refl, sr, keyV_rel k⟩
    rw [← hk, List.map_map, List.getElem?_map, h1]; rfl
  stop := fun i F1 H1 S1 e sr g hi => ⟨h _ _ e, by rw [← hk, List.length_map, List.length_map] at hi; exact hi⟩
theorem pair_new {K : PySem.W.Frag} {F : Addr → Prop} {H : Hp} {S : Sto} {T : Addr} {v w : V} {x y : U} (sr : SR K cls F H S) (hT : H T = none) (hv : VRel K F H v x) (hw : VRel K F H w y) : ∃ F', Ext F H S F' (upd H T (.tup [v, w])) S ∧ SR K cls F' (upd H T (.tup [v, w])) S ∧ VRel K F' (upd H T (.tup [v, w])) (.ref T) (.tup [x, y]) := by
  obtain ⟨s1, e1, f1⟩ := sr.newF (o := .tup [v, w]) hT
  exact ⟨_, e1, s1, .tup (.inl ⟨.inr rfl, upd_same⟩) (.cons (hv.ext f1) (.cons (hw.ext f1) .nil))⟩
theorem wk_items {K : PySem.W.Frag} {F : Addr → Prop} {H : Hp} {d : Addr} {o : Obj} {vs : List V} {ks : List L2.Key} {xs : List U} {gd : Sto → Prop} (h : ∀ F1 H1, FExt F H F1 H1 → H1 d = some (.frz o (.dK (ks.zip vs))) ∧ VRels K F1 H1 vs xs) :
    Wk K cls (Iti d o (ks.zip vs)) ((ks.zip xs).map fun kv => .tup [keyV kv.1, kv.2]) gd F H where
  go := fun i F1 H1 S1 e sr g hi => by
    obtain ⟨h1, h2⟩ := h _ _ e
    refine ⟨h1, ?_⟩
    rw [List.length_map, List.length_zip, ← h2.length] at hi
    rw [List.length_zip]; exact hi
  yld := fun i F1 H1 S1 x H' e sr g hi hy => by
    obtain ⟨T, k, v, h1, rfl, hT, rfl⟩ := hy
    obtain ⟨_, h2⟩ := h _ _ e
    obtain ⟨k1, k2⟩ := List.getElem?_zip_eq_some.mp h1
    obtain ⟨u, hu, ru⟩ := h2.get' k2
    obtain ⟨F', e', s', r'⟩ := pair_new sr hT (keyV_rel k) ru
    refine ⟨F', _, ?_, e', s', r'⟩
    have h2 : (ks.zip xs)[i]? = some (k, u) := List.getElem?_zip_eq_some.mpr ⟨k1, hu⟩
    rw [List.getElem?_map, h2]; rfl
  stop := fun i F1 H1 S1 e sr g hi => by
    obtain ⟨h1, h2⟩ := h _ _ e
    refine ⟨h1, ?_⟩
    rw [List.length_map, List.length_zip, ← h2.length] at hi
    rw [List.length_zip]; exact hi
theorem wk_enum {K : PySem.W.Frag} {F : Addr → Prop} {H : Hp} {a : Addr} {xs : List U} {gd : Sto → Prop} (h : ∀ F1 H1 S1, FExt F H F1 H1 → SR K cls F1 H1 S1 → gd S1 → ∃ vs, SqL K H1 a vs ∧ VRels K F1 H1 vs xs) :
    Wk K cls (Ite K a) (xs.zipIdx.map fun xi => .tup [.int (xi.2 : Int), xi.1]) gd F H where
  go := fun i F1 H1 S1 e sr g hi => by
    rw [List.length_map, List.length_zipIdx] at hi
    obtain ⟨vs, h1, h3⟩ := h F1 H1 S1 e sr g
    obtain ⟨v, hv, _⟩ := h3.get (List.getElem?_eq_getElem hi)
    exact ⟨vs, v, h1, hv⟩
  yld := fun i F1 H1 S1 x H' e sr g hi hy => by
    obtain ⟨T, v, rfl, hT, rfl, hy⟩ := hy
    obtain ⟨vs, h1, h3⟩ := h F1 _ S1 e sr g
    obtain ⟨u, hu, ru⟩ := h3.get' (hy vs h1)
    obtain ⟨F', e', s', r'⟩ := pair_new sr hT (.int (i : Nat)) ru
    refine ⟨F', _, ?_, e', s', r'⟩
    rw [List.getElem?_map, List.getElem?_zipIdx, hu]; simp
  stop := fun i F1 H1 S1 e sr g hi => by
    rw [List.length_map, List.length_zipIdx] at hi
    obtain ⟨vs, h1, h3⟩ := h F1 H1 S1 e sr g
    exact ⟨vs, h1, by rw [h3.length]; exact hi⟩
/-- a walk by values -/
def IW (K : PySem.W.Frag) (tl : TE) : TI := fun σ H R => tl σ H fun x H1 => (∃ a, x = .ref a ∧ (∃ xs, SqL K H1 a xs) ∧ R (Itl K a) H1) ∨ (∃ a, x = .ref a ∧ (∃ xs, SqT K H1 a xs) ∧ R (Itt K a) H1) ∨ (∃ z, x = .str z ∧ R (Its z) H1) ∨ ∃ d o kvs, x = .ref d ∧ H1 d = some (.frz o (.dK kvs)) ∧ R (Itk d o kvs) H1
theorem pi_any {tl : TE} (hl : PE X l tl) : PI X tg l (IW X.K tl) := ⟨fun pins s σ H R I h => thn (hl.run pins s σ H _ I h) fun v s1 ⟨x, H1, I1, r1, q1⟩ => by
  rcases q1 with ⟨a, ex, ⟨xs, hq⟩, q⟩ | ⟨a, ex, ⟨xs, hq⟩, q⟩ | ⟨z, ex, q⟩ | ⟨d, o, kvs, ex, hd, q⟩ <;> subst ex
  · cases r1
    obtain ⟨its, rv, p, _⟩ := I1.list hq
    exact wpAny_pyIter_list p.isList (pi_one (tk := s1.toks) I1 _ (turn_list a _) ⟨_, Heap.get?_push_size _ rfl, rfl, rfl⟩ q)
  · cases r1
    obtain ⟨its, rv, p, _⟩ := I1.tuple hq
    exact wpAny_pyIter_tuple (items := its.toArray) p (pi_one (tk := s1.toks) I1 _ (turn_tuple a _) ⟨_, Heap.get?_push_size _ rfl, rfl, rfl⟩ q)
  · obtain ⟨t, rfl⟩ := r1
    cases ha : z.cps.all (· < 128) with
    | false => exact wpAny_pyIter_wide ha (pi_one (tk := s1.toks) I1 _ (turn_str s1.heap.objs.size z t "str_iterator" (.inr rfl)) ⟨_, Heap.get?_push_size _ rfl, rfl, rfl⟩ q)
    | true => exact wpAny_pyIter_ascii ha (pi_one (tk := s1.toks) I1 _ (turn_str s1.heap.objs.size z t "str_ascii_iterator" (.inl rfl)) ⟨_, Heap.get?_push_size _ rfl, rfl, rfl⟩ q)
  · cases r1
    obtain ⟨k1, k2, k3, es, ep, ws, k4, k5, _, _⟩ := I1.frzK hd
    exact iter_keys k1 k2 k3 k4 (pi_one (tk := s1.toks) I1 _ (turn_keys _ k4) ⟨_, Heap.get?_push_size _ rfl, rfl, by rw [k5] <;> rfl⟩ q)⟩
theorem s_seq (hl : PE X l (tE X.K cls wl)) : PI X tg l (tI X.K cls fun ρ S R => wl ρ S fun x S1 => match x with
    | .str s => R (s.map fun c => U.str [c]) (fun _ => True) S1
    | .ref a => ∃ xs, S1 a = some (.lst xs) ∧ R xs (fun S => S a = some (.lst xs)) S1
    | .lst xs => R xs (fun _ => True) S1
    | .ls xs => R xs (fun _ => True) S1
    | .tup xs => R xs (fun _ => True) S1
    | .dct ks _ => R (ks.map keyV) (fun _ => True) S1
    | _ => False) := by
  refine (pi_any hl).imp fun σ H R ⟨F, S, ρ, P, sr, er, hw, k⟩ => ⟨F, S, ρ, _, sr, er, hw, fun x S1 h1 F1 H1 v e1 s1 r1 => ?_⟩
  cases x with
  | str s =>
    cases r1
    exact .inr (.inr (.inl ⟨_, rfl, k _ _ S1 h1 F1 H1 _ e1 s1 trivial wk_str⟩))
  | ref a =>
    cases r1
    obtain ⟨xs, ha, h2⟩ := h1
    obtain ⟨vs, hv, _⟩ := s1.sto a _ ha
    refine .inl ⟨a, rfl, ⟨vs, SqL.of hv⟩, k _ _ S1 h2 F1 H1 _ e1 s1 ha (wk_list fun F2 H2 S2 e2 s2 g => ?_)⟩
    obtain ⟨ws, h3, h4⟩ := s2.sto a _ g
    exact ⟨ws, SqL.of h3, h4⟩
  | lst xs =>
    cases r1 with
    | lst f1 h2 r =>
      refine .inl ⟨_, rfl, ⟨_, SqL.of h2⟩, k _ _ S1 h1 F1 H1 _ e1 s1 trivial (wk_list fun F2 H2 S2 e2 s2 g => ?_)⟩
      exact ⟨_, SqL.of ((e2.same _ f1).trans h2), r.ext e2⟩
  | ls xs =>
    cases r1 with
    | ls h2 r =>
      refine .inl ⟨_, rfl, ⟨_, h2.sq⟩, k _ _ S1 h1 F1 H1 _ e1 s1 trivial (wk_list fun F2 H2 S2 e2 s2 g => ?_)⟩
      exact ⟨_, (h2.ext e2).sq, r.ext e2⟩
  | tup xs =>
    cases r1 with
    | tup h2 r =>
      refine .inr (.inl ⟨_, rfl, ⟨_, h2.sq⟩, k _ _ S1 h1 F1 H1 _ e1 s1 trivial (wk_tup fun F2 H2 S2 e2 s2 g => ?_)⟩)
      exact ⟨_, (h2.ext e2).sq, r.ext e2⟩
  | dct ks xs =>
    cases r1 with
    | dct f1 h2 h3 r =>
      obtain ⟨o, h2⟩ := h2
      exact .inr (.inr (.inr ⟨_, o, _, rfl, h2, k _ _ S1 h1 F1 H1 _ e1 s1 trivial (wk_keys (by rw [List.map_fst_zip (by omega)]) fun F2 H2 e2 => (e2.same _ f1).trans h2)⟩))
  | _ => exact h1.elim
theorem s_items {elts : List Expr} {kk : Nat} {tpos : Pos} (hl : PE X l (tE X.K cls wl)) (hbase : attributeBase l "items" X.env (eval l X.env) = eval l X.env) (hline : (apos.endLine == cpos.line) = true) :
    PI X (.Tuple elts kk tpos) (.Call (.Attribute l "items" apos) [] [] cpos) (tI X.K cls fun ρ S R => wl ρ S fun x S1 => match x with
    | .dct ks xs => R ((ks.zip xs).map fun kv => .tup [keyV kv.1, kv.2]) (fun _ => True) S1
    | _ => False) := by
  refine (pi_items hl hbase hline).imp fun σ H R ⟨F, S, ρ, P, sr, er, hw, k⟩ => ⟨F, S, ρ, _, sr, er, hw, fun x S1 h1 F1 H1 v e1 s1 r1 => ?_⟩
  cases x <;> first | exact h1.elim | skip
  cases r1 with
  | dct f1 h2 h3 r =>
    obtain ⟨o, h2⟩ := h2
    exact ⟨_, o, _, rfl, h2, k _ _ S1 h1 F1 H1 _ e1 s1 trivial (wk_items fun F2 H2 e2 => ⟨(e2.same _ f1).trans h2, r.ext e2⟩)⟩
theorem s_enum {p : Pos} {elts : List Expr} {kk : Nat} {tpos : Pos} (hg : Gl X "enumerate") (hm : X.mg "enumerate" = none) (ha : PE X a (tE X.K cls wa)) (hs : starEach [a] X.env = [(false, eval a X.env)]) :
    PI X (.Tuple elts kk tpos) (.Call (.Name "enumerate" p) [a] [] pos) (tI X.K cls fun ρ S R => wa ρ S fun x S1 => match x with
    | .lst xs => R (xs.zipIdx.map fun xi => .tup [.int (xi.2 : Int), xi.1]) (fun _ => True) S1
    | .ref a => ∃ xs, S1 a = some (.lst xs) ∧ R (xs.zipIdx.map fun xi => .tup [.int (xi.2 : Int), xi.1]) (fun S => S a = some (.lst xs)) S1
    | _ => False) := by
  refine (pi_enum hg hm (pa_cons ha pa_nil hs) hs).imp fun σ H R ⟨F, S, ρ, P, sr, er, hw, k⟩ => ⟨F, S, ρ, _, sr, er, hw, fun x S1 h1 F1 H1 v e1 s1 r1 => ?_⟩
  cases x <;> first | exact h1.elim | skip
  · cases r1 with
    | lst f1 h2 r =>
      exact ⟨_, _, rfl, SqL.of h2, k _ _ S1 h1 F1 H1 _ e1 s1 trivial (wk_enum fun F2 H2 S2 e2 s2 g => ⟨_, SqL.of ((e2.same _ f1).trans h2), r.ext e2⟩)⟩
  · cases r1
    obtain ⟨xs, h2, h3⟩ := h1
    obtain ⟨vs, hv, _⟩ := s1.sto _ _ h2
    refine ⟨_, vs, rfl, SqL.of hv, k _ _ S1 h3 F1 H1 _ e1 s1 h2 (wk_enum fun F2 H2 S2 e2 s2 g => ?_)⟩
    obtain ⟨ws, k1, k2⟩ := s2.sto _ _ g
    exact ⟨ws, SqL.of k1, k2⟩
theorem s_rng1 {p : Pos} (hg : Gl X "range") (hm : X.mg "range" = none) (ha : PE X a (tE X.K cls wa)) (hs : starEach [a] X.env = [(false, eval a X.env)]) :
    PI X tg (.Call (.Name "range" p) [a] [] pos) (tI X.K cls fun ρ S R => wa ρ S fun x S1 => match x with
    | .int j => (-(2 ^ 62) ≤ j ∧ j < 2 ^ 62) ∧ R (rngU 0 j.toNat) (fun _ => True) S1
    | _ => False) := by
  refine (pi_range1 hg hm (pa_cons ha pa_nil hs) hs).imp fun σ H R ⟨F, S, ρ, P, sr, er, hw, k⟩ => ⟨F, S, ρ, _, sr, er, hw, fun x S1 h1 F1 H1 v e1 s1 r1 => ?_⟩
  cases x <;> first | exact h1.elim | skip
  cases r1
  exact ⟨_, rfl, h1.1.1, h1.1.2, k _ _ S1 h1.2 F1 H1 _ e1 s1 trivial wk_rng⟩
theorem s_rng2 {p : Pos} (hg : Gl X "range") (hm : X.mg "range" = none) (ha : PE X a (tE X.K cls wa)) (hb : PE X b (tE X.K cls wb)) (hs : starEach [a, b] X.env = [(false, eval a X.env), (false, eval b X.env)]) (hs2 : starEach [b] X.env = [(false, eval b X.env)]) :
    PI X tg (.Call (.Name "range" p) [a, b] [] pos) (tI X.K cls fun ρ S R => wa ρ S fun x S1 => wb ρ S1 fun y S2 => match x, y with
    | .int i, .int j => (-(2 ^ 62) ≤ i ∧ i < 2 ^ 62 ∧ -(2 ^ 62) ≤ j ∧ j < 2 ^ 62) ∧ R (rngU i (j - i).toNat) (fun _ => True) S2
    | _, _ => False) := by
  refine (pi_range2 hg hm (pa_cons ha (pa_cons hb pa_nil hs2) (by rw [hs, hs2])) hs hs2).imp fun σ H R ⟨F, S, ρ, P, sr, er, hw, k⟩ => ⟨F, S, ρ, _, sr, er, hw, fun x S1 h1 F1 H1 v e1 s1 r1 => ?_⟩
  refine ⟨F1, S1, ρ, _, s1, er.ext (e1.f sr), h1, fun y S2 h2 F2 H2 w e2 s2 r2 => ?_⟩
  cases x <;> first | exact h2.elim | skip
  cases y <;> first | exact h2.elim | skip
  cases r1; cases r2
  exact ⟨_, _, rfl, h2.1, k _ _ S2 h2.2 F2 H2 _ (e1.trans e2) s2 trivial wk_rng⟩
theorem wk_rev {K : PySem.W.Frag} {F : Addr → Prop} {H : Hp} {a : Addr} {xs : List U} {n : Nat} {gd : Sto → Prop} (hn : n = xs.length) (h : ∀ F1 H1 S1, FExt F H F1 H1 → SR K cls F1 H1 S1 → gd S1 → ∃ vs, SqL K H1 a vs ∧ VRels K F1 H1 vs xs) : Wk K cls (Itv K a n) xs.reverse gd F H where
  go := fun i F1 H1 S1 e sr g hi => by
    rw [List.length_reverse] at hi
    obtain ⟨vs, h1, h3⟩ := h F1 H1 S1 e sr g
    obtain ⟨v, hv, _⟩ := h3.get (List.getElem?_eq_getElem (show n - 1 - i < xs.length by omega))
    exact ⟨by omega, vs, v, h1, hv⟩
  yld := fun i F1 H1 S1 x H' e sr g hi hy => by
    rw [List.length_reverse] at hi
    obtain ⟨rfl, hy⟩ := hy
    obtain ⟨vs, h1, h3⟩ := h F1 _ S1 e sr g
    obtain ⟨u, hu, ru⟩ := h3.get' (hy vs h1)
    exact ⟨F1, u, by rw [List.getElem?_reverse hi, ← hn]; exact hu, .refl, sr, ru⟩
  stop := fun i F1 H1 S1 e sr g hi => by
    rw [List.length_reverse] at hi
    show n ≤ i
    omega
theorem s_rvs {p : Pos} (hg : Gl X "reversed") (hm : X.mg "reversed" = none) (ha : PE X a (tE X.K cls wa)) (hs : starEach [a] X.env = [(false, eval a X.env)]) :
    PI X tg (.Call (.Name "reversed" p) [a] [] pos) (tI X.K cls fun ρ S R => wa ρ S fun x S1 => match x with
    | .lst xs => R xs.reverse (fun _ => True) S1
    | _ => False) := by
  refine (pi_reversed hg hm (pa_cons ha pa_nil hs) hs).imp fun σ H R ⟨F, S, ρ, P, sr, er, hw, k⟩ => ⟨F, S, ρ, _, sr, er, hw, fun x S1 h1 F1 H1 v e1 s1 r1 => ?_⟩
  cases x <;> first | exact h1.elim | skip
  cases r1 with
  | lst f1 h2 r =>
    exact ⟨_, _, rfl, SqL.of h2, k _ _ S1 h1 F1 H1 _ e1 s1 trivial (wk_rev r.length fun F2 H2 S2 e2 s2 g => ⟨_, SqL.of ((e2.same _ f1).trans h2), r.ext e2⟩)⟩
theorem wk_rngD {K : PySem.W.Frag} {F : Addr → Prop} {H : Hp} {lo : Int} {n : Nat} {gd : Sto → Prop} : Wk K cls (Itc lo (-1) n) (rngD lo n) gd F H where
  go := fun i F1 H1 S1 e sr g hi => by
    show i < n
    simpa [rngD] using hi
  yld := fun i F1 H1 S1 x H' e sr g hi hy => by
    obtain ⟨rfl, rfl⟩ := hy
    have hi' : i < n := by simpa [rngD] using hi
    have e : lo + (i : Int) * (-1) = lo - (i : Int) := by omega
    exact ⟨F1, .int (lo - (i : Int)), by simp [rngD, hi'], .refl, sr, by rw [e]; exact .int _⟩
  stop := fun i F1 H1 S1 e sr g hi => by
    show n ≤ i
    simpa [rngD] using hi
theorem s_rngD {p : Pos} {k : Nat} {p1 p2 : Pos} (hg : Gl X "range") (hm : X.mg "range" = none) (ha : PE X a (tE X.K cls wa)) (hb : PE X b (tE X.K cls wb)) (hs : starEach [a, b, .UnaryOp .USub (.Constant (.int 1) k p1) p2] X.env = (false, eval a X.env) :: starEach [b, .UnaryOp .USub (.Constant (.int 1) k p1) p2] X.env)
    (hs2 : starEach [b, .UnaryOp .USub (.Constant (.int 1) k p1) p2] X.env = (false, eval b X.env) :: starEach [.UnaryOp .USub (.Constant (.int 1) k p1) p2] X.env) :
    PI X tg (.Call (.Name "range" p) [a, b, .UnaryOp .USub (.Constant (.int 1) k p1) p2] [] pos) (tI X.K cls fun ρ S R => wa ρ S fun x S1 => wb ρ S1 fun y S2 => match x, y with
    | .int i, .int j => (-(2 ^ 62) ≤ i ∧ i < 2 ^ 62 ∧ -(2 ^ 62) ≤ j ∧ j < 2 ^ 62) ∧ R (rngD i (i - j).toNat) (fun _ => True) S2
    | _, _ => False) := by
  have ha3 : PA X [a, b, .UnaryOp .USub (.Constant (.int 1) k p1) p2] (tCons (tE X.K cls wa) (tCons (tE X.K cls wb) (tCons (tUn (rU fun i => .int (-i)) (tC (.int 1))) tNil))) := pa_cons ha (pa_cons hb (pa_cons (pe_un un_neg pe_int) pa_nil rfl) hs2) hs
  refine (pi_range3 hg hm ha3 hs (by rw [hs2]; rfl)).imp fun σ H R ⟨F, S, ρ, P, sr, er, hw, k⟩ => ⟨F, S, ρ, _, sr, er, hw, fun x S1 h1 F1 H1 v e1 s1 r1 => ?_⟩
  refine ⟨F1, S1, ρ, _, s1, er.ext (e1.f sr), h1, fun y S2 h2 F2 H2 w e2 s2 r2 => ?_⟩
  cases x <;> first | exact h2.elim | skip
  cases y <;> first | exact h2.elim | skip
  cases r1; cases r2
  next i j =>
  refine ⟨1, rfl, i, j, -1, _, rfl, RgC.neg h2.1.1 h2.1.2.1 h2.1.2.2.1 h2.1.2.2.2, k _ _ S2 h2.2 F2 H2 _ (e1.trans e2) s2 trivial wk_rngD⟩
/-! ### targets -/
def gsOf : List Nat → TGs
  | [] => gNil
  | i :: is => gCons (gName i) (gsOf is)
def gOf (K : PySem.W.Frag) : Tg → TG
  | .one i => gName i
  | .tup is => gTup K is.length (gsOf is)
theorem wipe_set (σ : L2.St) (i : Nat) (v : Option V) : ∀ vs : List Nat, i ∈ vs → L2.wipe (σ.set i v) vs = L2.wipe σ vs
  | j :: vs, h => by
    unfold L2.wipe
    by_cases hj : i ∈ vs
    · rw [wipe_set σ i v vs hj]
    · have e : i = j := by
        rcases List.mem_cons.mp h with e | e
        · exact e
        · exact absurd e hj
      subst e
      have : ∀ vs : List Nat, i ∉ vs → L2.wipe (σ.set i v) vs = (L2.wipe σ vs).set i v := by
        intro vs
        induction vs with
        | nil => intro _; rfl
        | cons k vs ih =>
          intro hk
          simp only [List.mem_cons, not_or] at hk
          unfold L2.wipe
          rw [ih hk.2, List.set_comm _ _ hk.1]
      rw [this vs hj, List.set_set]
theorem wipe_wipe (σ : L2.St) (ws : List Nat) : ∀ vs : List Nat, (∀ i ∈ vs, i ∈ ws) → L2.wipe (L2.wipe σ vs) ws = L2.wipe σ ws
  | [], _ => rfl
  | i :: vs, h => by
    show L2.wipe ((L2.wipe σ vs).set i none) ws = _
    rw [wipe_set _ _ _ _ (h i List.mem_cons_self)]
    exact wipe_wipe σ ws vs fun j hj => h j (List.mem_cons_of_mem _ hj)
theorem gs_ok {K : PySem.W.Frag} {F : Addr → Prop} {H : Hp} {Q : L2.St → Hp → Prop} : ∀ {is : List Nat} {us : List U} {vs : List V} {ρ ρ' : Env} {σ : L2.St}, setsU is us ρ = some ρ' → VRels K F H vs us → ER K F H σ ρ → (∀ σ', ER K F H σ' ρ' → (∀ ws : List Nat, (∀ i ∈ is, i ∈ ws) → L2.wipe σ' ws = L2.wipe σ ws) → Q σ' H) → gsOf is vs σ H Q
  | [], [], _, ρ, ρ', σ, h, .nil, er, hq => by simp only [setsU] at h; cases h; exact ⟨rfl, hq σ er fun _ _ => rfl⟩
  | i :: is, u :: us, _, ρ, ρ', σ, h, .cons rv rs, er, hq => by
    simp only [setsU] at h
    exact ⟨_, _, rfl, gs_ok h rs (er.set rv i) fun σ' er' hw => hq σ' er' fun ws hi => (hw ws fun j hj => hi j (List.mem_cons_of_mem _ hj)).trans (wipe_set _ _ _ _ (hi i List.mem_cons_self))⟩
theorem setsU_len : ∀ {is : List Nat} {us : List U} {ρ ρ' : Env}, setsU is us ρ = some ρ' → us.length = is.length
  | [], [], _, _, _ => rfl
  | [], _ :: _, _, _, h => by simp [setsU] at h
  | _ :: _, [], _, _, h => by simp [setsU] at h
  | i :: is, u :: us, _, _, h => by simp only [setsU] at h; simp [setsU_len h]
theorem g_ok {K : PySem.W.Frag} {F : Addr → Prop} {H : Hp} {Q : L2.St → Hp → Prop} {g : Tg} {u : U} {v : V} {ρ : Env} {σ : L2.St} {k : Env → Prop} (h : tgW g u ρ k) (rv : VRel K F H v u) (er : ER K F H σ ρ)
    (hq : ∀ ρ' σ', k ρ' → ER K F H σ' ρ' → (∀ ws : List Nat, (∀ i ∈ g.slots, i ∈ ws) → L2.wipe σ' ws = L2.wipe σ ws) → Q σ' H) : gOf K g v σ H Q := by
  cases g with
  | one i => exact hq _ _ h (er.set rv i) fun ws hi => wipe_set _ _ _ _ (hi i List.mem_cons_self)
  | tup is =>
    cases u <;> first | exact h.elim | skip
    obtain ⟨ρ', h1, h2⟩ := h
    cases rv with
    | tup ht rs => exact ⟨_, _, rfl, ht.sq, by rw [rs.length]; exact setsU_len h1, gs_ok h1 rs er fun σ' er' hw => hq ρ' σ' h2 er' hw⟩
/-! ### a list comprehension -/
theorem len_drop {α : Type} {xs : List α} {i : Nat} {x : α} (h : xs[i]? = some x) : xs.drop i = x :: xs.drop (i + 1) := by
  obtain ⟨hi, e⟩ := List.getElem?_eq_some_iff.mp h
  rw [List.drop_eq_getElem_cons hi, e]
/-- a hidden thing: it stands outside -/
theorem hid_new {K : PySem.W.Frag} {F : Addr → Prop} {H : Hp} {S : Sto} {p : Addr} {o : HO} (r : SR K cls F H S) (hp : H p = none) : SR K cls F (upd H p o) S ∧ Ext F H S F (upd H p o) S := by
  have nF := r.notF hp
  have nS := r.notS hp
  have fe : FExt F H F (upd H p o) := r.fe_new hp
  have ex : Ext F H S F (upd H p o) S := ⟨fun _ h => h, fun b x h h' => ⟨(upd_ne fun z => by rw [z, hp] at h; cases h).trans h, h', id⟩⟩
  refine ⟨⟨r.sep, fun b h => ?_, fun b x h => ?_, r.anc.trans ex⟩, ex⟩
  · obtain ⟨x, e⟩ := r.frz b h
    exact ⟨x, (fe.same b h).trans e⟩
  · exact (r.sto b x h).ext fe (upd_ne fun z => by rw [z, nS] at h; cases h)
theorem hid_write {K : PySem.W.Frag} {F F1 : Addr → Prop} {H H1 : Hp} {S S1 : Sto} {p : Addr} {o : HO} (r1 : SR K cls F1 H1 S1) (r : SR K cls F H S) (nF : ¬ F p) (nS : S p = none) (e : Ext F1 H1 S1 F H S) (hp : H1 p = none) :
    SR K cls F (upd H p o) S ∧ Ext F1 H1 S1 F (upd H p o) S ∧ FExt F H F (upd H p o) := by
  have ne : ∀ b, F b → b ≠ p := fun b h z => nF (by rw [← z]; exact h)
  have fe : FExt F H F (upd H p o) := ⟨fun _ h => h, fun b h => upd_ne (ne b h)⟩
  have ex : Ext F1 H1 S1 F (upd H p o) S := ⟨e.sub, fun b x h h' => by
    obtain ⟨h2, h3⟩ := e.keep b x h h'
    exact ⟨(upd_ne fun z => by rw [z, hp] at h; cases h).trans h2, h3⟩⟩
  refine ⟨⟨r.sep, fun b h => ?_, fun b x h => ?_, r1.anc.trans ex⟩, ex, fe⟩
  · obtain ⟨x, e⟩ := r.frz b h
    exact ⟨x, (fe.same b h).trans e⟩
  · exact (r.sto b x h).ext fe (upd_ne fun z => by rw [z, nS] at h; cases h)
/-- a hidden dict comes out -/
theorem hid_dct {K : PySem.W.Frag} {F F1 : Addr → Prop} {H H1 : Hp} {S S1 : Sto} {D : Addr} {vs : List (L2.Key × V)} {kvs : List (L2.Key × U)} {R : Post} {Q : VK} (r1 : SR K cls F1 H1 S1) (r : SR K cls F H S) (nF : ¬ F D) (hD : H D = some (.dK vs)) (rv : KRel K F H vs kvs) (e : Ext F1 H1 S1 F H S) (hp : H1 D = none) (a : R (.ref D) (S.put D (.dct kvs)))
    (l : LG (VRel K) K cls F1 H1 S1 R Q) : Q (.ref D) H := by
  have ex : Ext F1 H1 S1 F H (S.put D (.dct kvs)) := ⟨e.sub, fun b x h h' => by
    obtain ⟨h2, h3, h4⟩ := e.keep b x h h'
    exact ⟨h2, (Sto.put_ne fun z => by rw [z, hp] at h; cases h).trans h3, h4⟩⟩
  refine l _ _ a F H _ ex ⟨fun b h => ?_, r.frz, fun b x h => ?_, r1.anc.trans ex⟩ (.ref D)
  · exact (Sto.put_ne fun z => nF (by rw [← z]; exact h)).trans (r.sep b h)
  · by_cases hb : b = D
    · subst hb
      rw [Sto.put_same] at h; cases h
      exact ⟨vs, hD, rv⟩
    · rw [Sto.put_ne hb] at h
      exact r.sto b x h
/-- {k: v} -/
theorem s_dct1 (ha : PE X a (tE X.K cls wa)) (hb : PE X b (tE X.K cls wb)) : PE X (.Dict [some a] [b] pos) (tE X.K cls fun ρ S R => wa ρ S fun x S1 => wb ρ S1 fun y S2 => dct1W x y S2 R) := by
  refine (pe_disp (pps_cons ha hb pps_nil) rfl rfl (by simp) (by show 1 ≤ 15; decide)).imp fun σ H Q ⟨F, S, ρ, R, sr, er, hw, l⟩ p hp => ?_
  obtain ⟨s0, e0⟩ := hid_new (o := .dK []) sr hp
  refine ⟨F, S, ρ, _, s0, er.ext (e0.f sr), hw, fun x S1 h1 F1 H1 v e1 s1 r1 => ⟨F1, S1, ρ, _, s1, er.ext ((e0.trans e1).f sr), h1, fun y S2 h2 F2 H2 w e2 s2 r2 => ?_⟩⟩
  obtain ⟨q, hq, h3⟩ := h2
  obtain ⟨hP, nS, nF⟩ := (e1.trans e2).keep p _ upd_same (sr.notS hp)
  have nF2 : ¬ F2 p := fun z => sr.notF hp (nF z)
  have hv : v = kV q := by
    cases x <;> first | (simp [keyU] at hq; done) | skip
    all_goals (simp only [keyU, Option.some.injEq] at hq; subst hq; cases r1; rfl)
  obtain ⟨s3, e3, f3⟩ := hid_write (o := .dK [(q, w)]) sr s2 nF2 nS (e0.trans (e1.trans e2)) hp
  refine ⟨hP, [(q, w)], by rw [hv]; rfl, by show 1 ≤ 15; decide, ?_⟩
  exact hid_dct sr s3 nF2 upd_same (.cons (r2.ext f3) .nil) e3 hp (h3 p nS) l
theorem hid_out {K : PySem.W.Frag} {F F1 : Addr → Prop} {H H1 : Hp} {S S1 : Sto} {D : Addr} {m : Bool} {vs : List V} {xs : List U} {R : Post} {Q : VK} (r1 : SR K cls F1 H1 S1) (r : SR K cls F H S) (nF : ¬ F D) (nS : S D = none) (hD : H D = some (.lst vs)) (rv : VRels K F H vs xs) (e : Ext F1 H1 S1 F H S) (hp : H1 D = none) (a : alloc m xs S R)
    (l : LG (VRel K) K cls F1 H1 S1 R Q) : Q (.ref D) H := by
  unfold alloc at a
  cases m with
  | true =>
    rw [if_pos rfl] at a
    have ex : Ext F1 H1 S1 F H (S.put D (.lst xs)) := ⟨e.sub, fun b x h h' => by
      obtain ⟨h2, h3, h4⟩ := e.keep b x h h'
      exact ⟨h2, (Sto.put_ne fun z => by rw [z, hp] at h; cases h).trans h3, h4⟩⟩
    refine l _ _ (a D nS) F H _ ex ⟨fun b h => ?_, r.frz, fun b x h => ?_, r1.anc.trans ex⟩ (.ref D)
    · exact (Sto.put_ne fun z => nF (by rw [← z]; exact h)).trans (r.sep b h)
    · by_cases hb : b = D
      · subst hb
        rw [Sto.put_same] at h; cases h
        exact ⟨vs, hD, rv⟩
      · rw [Sto.put_ne hb] at h
        exact r.sto b x h
  | false =>
    rw [if_neg Bool.false_ne_true] at a
    have fe : FExt F H (fun b => F b ∨ b = D) H := ⟨fun _ h => .inl h, fun _ _ => rfl⟩
    have ex : Ext F1 H1 S1 (fun b => F b ∨ b = D) H S := ⟨fun b h => .inl (e.sub b h), fun b x h h' => by
      obtain ⟨h2, h3, h4⟩ := e.keep b x h h'
      exact ⟨h2, h3, fun z => h4 (z.resolve_right fun z => by rw [z, hp] at h; cases h)⟩⟩
    refine l _ _ a (fun b => F b ∨ b = D) H _ ex ⟨fun b h => ?_, fun b h => ?_, fun b x h => (r.sto b x h).ext fe rfl, r1.anc.trans ex⟩ (.lst (.inr rfl) hD (rv.ext fe))
    · rcases h with h | rfl
      · exact r.sep b h
      · exact nS
    · rcases h with h | rfl
      · exact r.frz b h
      · exact ⟨_, hD⟩
theorem lc_imp {K : PySem.W.Frag} {m : Bool} {own : List Nat} {g : Tg} {wi : WI} {wt : Env → Sto → (Bool → Sto → Prop) → Prop} {we : Env → Sto → Post → Prop} (hown : ∀ i ∈ g.slots, i ∈ own) (σ : L2.St) (H : Hp) (Q : VK)
    (hh : tE K cls (fun ρ S R => wi ρ S fun xs gd S1 => lcW m own g gd wt we R ρ xs [] S1) σ H Q) : tLc (tI K cls wi) (gOf K g) (tB' K cls wt) (tE K cls we) own σ H Q := by
  obtain ⟨F, S, ρ, R, sr, er, hw, l⟩ := hh
  refine ⟨F, S, ρ, _, sr, er, hw, fun xs gd S1 h1 F1 H1 J e1 s1 g1 wk D hD => ?_⟩
  obtain ⟨s2, e2⟩ := hid_new (o := .lst []) s1 hD
  have l1 := l.step e1
  refine ⟨fun i n H' => n = xs.length - i ∧ i ≤ xs.length ∧ ∃ F' S' acc vacc, SR K cls F' H' S' ∧ Ext F1 H1 S1 F' H' S' ∧ H' D = some (.lst vacc) ∧ ¬ F' D ∧ S' D = none ∧ VRels K F' H' vacc acc ∧ lcW m own g gd wt we R ρ (xs.drop i) acc S',
    ⟨xs.length, by simp, Nat.zero_le _, F1, S1, [], [], s2, e2, upd_same, s1.notF hD, s1.notS hD, .nil, h1⟩, ?_⟩
  rintro i n H' ⟨rfl, hi, F', S', acc, vacc, s', e', hD', nF, nS, ra, hl⟩
  by_cases hlt : i < xs.length
  · obtain ⟨x0, hx0⟩ : ∃ x, xs[i]? = some x := ⟨_, List.getElem?_eq_getElem hlt⟩
    rw [len_drop hx0] at hl
    obtain ⟨hgd, hl⟩ := hl
    refine .inr ⟨wk.go i F' H' S' (e'.f s1) s' hgd hlt, fun H'' => ∃ n, n = xs.length - (i + 1) ∧ i + 1 ≤ xs.length ∧ ∃ F' S' acc vacc, SR K cls F' H'' S' ∧ Ext F1 H1 S1 F' H'' S' ∧ H'' D = some (.lst vacc) ∧ ¬ F' D ∧ S' D = none ∧ VRels K F' H'' vacc acc ∧ lcW m own g gd wt we R ρ (xs.drop (i + 1)) acc S',
      fun H'' ⟨n, hn⟩ => ⟨n, by omega, hn⟩, fun x H2 hy => ?_⟩
    obtain ⟨F2, u, hu, e2, s2, r2⟩ := wk.yld i F' H' S' x H2 (e'.f s1) s' hgd hlt hy
    rw [hx0] at hu; cases hu
    obtain ⟨hD2, nS2, nF2⟩ := e2.keep D _ hD' nS
    refine g_ok hl r2 ((er.ext ((e1.trans (e'.trans e2)).f sr)).wipe own) fun ρ2 σ2 hc er2 hws => ⟨(hws own hown).trans (wipe_wipe σ own own fun _ h => h), F2, S', ρ2, _, s2, er2, hc, fun b S3 h3 F3 H3 b' e3 s3 r3 => ?_⟩
    cases r3
    obtain ⟨hD3, nS3, nF3⟩ := e3.keep D _ hD2 nS2
    have e13 := e'.trans (e2.trans e3)
    cases b with
    | false =>
      rw [if_neg Bool.false_ne_true] at h3 ⊢
      exact ⟨_, rfl, hlt, F3, S3, acc, vacc, s3, e13, hD3, fun z => nF (nF2 (nF3 z)), nS3, ra.ext ((e2.trans e3).f s'), h3⟩
    | true =>
      rw [if_pos rfl] at h3 ⊢
      refine ⟨F3, S3, ρ2, _, s3, er2.ext (e3.f s2), h3, fun y S4 h4 F4 H4 y' e4 s4 r4 => ?_⟩
      obtain ⟨hD4, nS4, nF4⟩ := e4.keep D _ hD3 nS3
      have nF4' : ¬ F4 D := fun z => nF (nF2 (nF3 (nF4 z)))
      have ra4 := ra.ext ((e2.trans (e3.trans e4)).f s')
      obtain ⟨s5, e5, f5⟩ := hid_write (o := .lst (vacc ++ [y'])) s1 s4 nF4' nS4 (e13.trans e4) hD
      exact ⟨vacc, hD4, by rw [ra.length]; exact h4.1, _, rfl, hlt, F4, S4, acc ++ [y], vacc ++ [y'], s5, e5, upd_same, nF4', nS4, (ra4.append (.cons r4 .nil)).ext f5, h4.2⟩
  · have ei : i = xs.length := by omega
    subst ei
    rw [List.drop_length] at hl
    exact .inl ⟨wk.stop _ F' H' S' (e'.f s1) s' hl.1 (Nat.le_refl _), hid_out s1 s' nF nS hD' ra e' hD hl.2 l1⟩
theorem s_lc {m : Bool} {own : List Nat} {g : Tg} {wi : WI} {wt : Env → Sto → (Bool → Sto → Prop) → Prop} {we : Env → Sto → Post → Prop} (hown : ∀ i ∈ g.slots, i ∈ own)
    (key : PE X e (tLc (tI X.K cls wi) (gOf X.K g) (tB' X.K cls wt) (tE X.K cls we) own)) :
    PE X e (tE X.K cls fun ρ S R => wi ρ S fun xs gd S1 => lcW m own g gd wt we R ρ xs [] S1) := key.imp (lc_imp hown)
end
end Mm
/-! MmG2: dicts, sets in order, two walks in one comprehension, another view -/
namespace Mm
open PySem PySem.Spec PyProof.Rows L2
section
variable {X : Cx} {cls : Anc} {a b c e o l d : Expr} {wa wb wc wo wl : Env → Sto → Post → Prop} {pos apos cpos : Pos} {tg : Expr}
theorem s_dct0 : PE X (.Dict [] [] pos) (tE X.K cls fun _ S R => ∀ a, S a = none → R (.ref a) (S.put a (.dct []))) := pe_dnewK.imp fun σ H Q ⟨F, S, ρ, R, sr, er, hw, l⟩ p hp => by
  obtain ⟨s1, e1, f1⟩ := sr.newM (o := .dK []) (ob := .dct []) hp ⟨[], upd_same, .nil⟩
  exact l _ _ (hw p (sr.notS hp)) _ _ _ e1 s1 (.ref p)
theorem s_dnk0 : PE X (.Dict [] [] pos) (tE X.K cls fun _ S R => ∀ a, S a = none → R (.ref a) (S.put a (.dnk []))) := pe_dnewN.imp fun σ H Q ⟨F, S, ρ, R, sr, er, hw, l⟩ p P w hp => by
  obtain ⟨s1, e1, f1⟩ := sr.newM (o := DnO P w p []) (ob := .dnk []) hp ⟨P, w, [], upd_same, .nil⟩
  exact l _ _ (hw p (sr.notS hp)) _ _ _ e1 s1 (.ref p)
theorem s_gst (ha : PE X a (tE X.K cls wa)) : PE X a (tE X.K cls fun ρ S R => wa ρ S fun x S1 => ∃ y S2, Gst x S1 y S2 ∧ R y S2) := by
  refine (pe_lk ha).imp fun σ H Q ⟨F, S, ρ, R, sr, er, hw, l⟩ => ⟨F, S, ρ, _, sr, er, hw, fun x S1 h1 F1 H1 v e1 s1 r1 => ?_⟩
  obtain ⟨y, S2, g, h2⟩ := h1
  rcases g _ _ _ _ _ s1 r1 with ⟨F2, s2, e2, r2⟩ | ⟨d, u, hd, mu, g⟩
  · exact .inl (l _ _ h2 _ _ _ (e1.trans e2) s2 r2)
  · refine .inr ⟨d, u, hd, mu, fun od => ?_⟩
    obtain ⟨F2, s2, e2, r2⟩ := g od
    exact l _ _ h2 _ _ _ (e1.trans e2) s2 r2
theorem s_dget (hu : X.A.units + 1 < cLine) (ho : PE X o (tE X.K cls wo)) (ha : PE X a (tE X.K cls wa)) (hb : PE X b (tE X.K cls wb)) (m : M2 X o "get" apos a b cpos) :
    PE X (.Call (.Attribute o "get" apos) [a, b] [] cpos) (tE X.K cls fun ρ S R => wo ρ S fun x S1 => (∃ kvs, dctOf S1 x = some kvs) ∧ wa ρ S1 fun y S2 => wb ρ S2 fun z S3 => ∃ kvs q, dctOf S3 x = some kvs ∧ keyU y = some q ∧ R ((getA kvs q).getD z) S3) := by
  refine (pe_dget2 hu ho ha hb m).imp fun σ H Q ⟨F, S, ρ, R, sr, er, hw, l⟩ => ⟨F, S, ρ, _, sr, er, hw, fun x S1 h1 F1 H1 v e1 s1 r1 => ?_⟩
  obtain ⟨⟨kvs, hk⟩, h2⟩ := h1
  obtain ⟨p, vs, rfl, hp, _⟩ := dctOf_ok s1 r1 hk
  refine ⟨p, rfl, .inl ⟨vs, hp⟩, F1, S1, ρ, _, s1, er.ext (e1.f sr), h2, fun y S2 h2 F2 H2 w e2 s2 r2 => ⟨F2, S2, ρ, _, s2, er.ext ((e1.trans e2).f sr), h2, fun z S3 h3 F3 H3 t e3 s3 r3 => ?_⟩⟩
  obtain ⟨kvs', q, k1, k2, k3⟩ := h3
  obtain ⟨p', vs', ep, hp', rp⟩ := dctOf_ok s3 (r1.ext ((e2.trans e3).f s1)) k1
  cases ep
  refine ⟨valV vs' q, .inl ⟨vs', q, hp', keyU_ok r2 k2, rfl⟩, ?_⟩
  have ll := l.step (e1.trans (e2.trans e3))
  have val := rp.val q
  cases hg : getA kvs' q with
  | none =>
    rw [hg] at val k3
    cases hv : valV vs' q with
    | none => exact ll.now s3 k3 r3
    | some v' => rw [hv] at val; cases val.1
  | some u =>
    obtain ⟨v', hv, rv⟩ := val.2 u hg
    rw [hg] at k3
    rw [hv]
    exact ll.now s3 k3 rv
/-- sorted(set(a)) -/
theorem s_srts {m : Bool} {p p2 q : Pos} (hc : X.calm = true) (hg : Gl X "sorted") (hm : X.mg "sorted" = none) (hg2 : Gl X "set") (hm2 : X.mg "set" = none) (ha : PE X a (tE X.K cls wa)) (hs : starEach [a] X.env = [(false, eval a X.env)]) :
    PE X (.Call (.Name "sorted" p) [.Call (.Name "set" p2) [a] [] q] [] pos) (tE X.K cls fun ρ S R => wa ρ S fun x S1 => ∃ xs ns, lisOf S1 x = some xs ∧ intsOf xs = some ns ∧ srtW m R ns S1) := by
  have k1 := pe_callTy (p := p2) (pos := q) (cr_setL (X := X) hc) hg2 hm2 (by decide +kernel) (pa_cons ha pa_nil hs) (by decide) (by decide) hs rfl
  have k2 := pe_callB (p := p) (pos := pos) (cr_sortedSet hc) hg hm (by decide +kernel) (pa_cons k1 pa_nil rfl) (by decide) (by decide) rfl rfl
  refine k2.imp fun σ H Q ⟨F, S, ρ, R, sr, er, hw, l⟩ => ⟨F, S, ρ, _, sr, er, hw, fun x S1 h1 F1 H1 v e1 s1 r1 => ?_⟩
  obtain ⟨xs, ns, h2, h3, h4, h5⟩ := h1
  obtain ⟨t, vs, rfl, ht, rt⟩ := lisOf_ok s1 r1 h2
  rw [intsOf_ok rt h3] at ht
  refine ⟨t, ns, rfl, ht, by omega, fun p c hp hcn => ?_⟩
  obtain ⟨s2, e2⟩ := hid_new (o := SetO X.w p (fun j => decide (j ∈ ns)) c) s1 hp
  refine ⟨p, _, c, rfl, upd_same, by omega, fun ns' p2 w1 w2 _ hp2 => ?_⟩
  exact alloc_ok (l.step (e1.trans e2)).lq s2 (h5 ns' w1 fun k => by rw [w2]; simp) (vrels_ints ns') p2 hp2
/-- a walk's members, gathered -/
theorem sc_imp {K : PySem.W.Frag} {w : World} {own : List Nat} {g : Tg} {wi : WI} {wt : Env → Sto → (Bool → Sto → Prop) → Prop} {we : Env → Sto → Post → Prop} {Kx : Post → List Int → Sto → Prop} (hown : ∀ i ∈ g.slots, i ∈ own) (σ : L2.St) (H : Hp) (Q : VK)
    (hh : ∃ F S ρ R, SR K cls F H S ∧ ER K F H σ ρ ∧ (wi ρ S fun xs gd S1 => scW own g gd wt we (Kx R) ρ xs [] S1) ∧
      ∀ acc S', Kx R acc S' → ∀ F' H' D M n, Ext F H S F' H' S' → SR K cls F' H' S' → H' D = some (SetO w D M n) → ¬ F' D → S' D = none → (∀ k, M k = true ↔ k ∈ acc) → n ≤ acc.length → Q (.ref D) H') : tScI w (tI K cls wi) (gOf K g) (tB' K cls wt) (tE K cls we) own σ H Q := by
  obtain ⟨F, S, ρ, R, sr, er, hw, fin⟩ := hh
  refine ⟨F, S, ρ, _, sr, er, hw, fun xs gd S1 h1 F1 H1 J e1 s1 g1 wk D hD => ?_⟩
  obtain ⟨s2, e2⟩ := hid_new (o := SetO w D (fun _ => false) 0) s1 hD
  refine ⟨fun i n H' => n = xs.length - i ∧ i ≤ xs.length ∧ ∃ F' S' acc M k, SR K cls F' H' S' ∧ Ext F1 H1 S1 F' H' S' ∧ H' D = some (SetO w D M k) ∧ ¬ F' D ∧ S' D = none ∧ (∀ j, M j = true ↔ j ∈ acc) ∧ k ≤ acc.length ∧ scW own g gd wt we (Kx R) ρ (xs.drop i) acc S',
    ⟨xs.length, by simp, Nat.zero_le _, F1, S1, [], _, 0, s2, e2, upd_same, s1.notF hD, s1.notS hD, fun j => by simp, Nat.le_refl _, h1⟩, ?_⟩
  rintro i n H' ⟨rfl, hi, F', S', acc, M, k, s', e', hD', nF, nS, hM, hk, hl⟩
  by_cases hlt : i < xs.length
  · obtain ⟨x0, hx0⟩ : ∃ x, xs[i]? = some x := ⟨_, List.getElem?_eq_getElem hlt⟩
    rw [len_drop hx0] at hl
    obtain ⟨hgd, hl⟩ := hl
    refine .inr ⟨wk.go i F' H' S' (e'.f s1) s' hgd hlt, fun H'' => ∃ n, n = xs.length - (i + 1) ∧ i + 1 ≤ xs.length ∧ ∃ F' S' acc M k, SR K cls F' H'' S' ∧ Ext F1 H1 S1 F' H'' S' ∧ H'' D = some (SetO w D M k) ∧ ¬ F' D ∧ S' D = none ∧ (∀ j, M j = true ↔ j ∈ acc) ∧ k ≤ acc.length ∧ scW own g gd wt we (Kx R) ρ (xs.drop (i + 1)) acc S',
      fun H'' ⟨n, hn⟩ => ⟨n, by omega, hn⟩, fun x H2 hy => ?_⟩
    obtain ⟨F2, u, hu, e2, s2, r2⟩ := wk.yld i F' H' S' x H2 (e'.f s1) s' hgd hlt hy
    rw [hx0] at hu; cases hu
    obtain ⟨hD2, nS2, nF2⟩ := e2.keep D _ hD' nS
    refine g_ok hl r2 ((er.ext ((e1.trans (e'.trans e2)).f sr)).wipe own) fun ρ2 σ2 hc er2 hws => ⟨(hws own hown).trans (wipe_wipe σ own own fun _ h => h), F2, S', ρ2, _, s2, er2, hc, fun b S3 h3 F3 H3 b' e3 s3 r3 => ?_⟩
    cases r3
    obtain ⟨hD3, nS3, nF3⟩ := e3.keep D _ hD2 nS2
    have e13 := e'.trans (e2.trans e3)
    cases b with
    | false =>
      rw [if_neg Bool.false_ne_true] at h3 ⊢
      exact ⟨_, rfl, hlt, F3, S3, acc, M, k, s3, e13, hD3, fun z => nF (nF2 (nF3 z)), nS3, hM, hk, h3⟩
    | true =>
      rw [if_pos rfl] at h3 ⊢
      refine ⟨F3, S3, ρ2, _, s3, er2.ext (e3.f s2), h3, fun y S4 h4 F4 H4 y' e4 s4 r4 => ?_⟩
      obtain ⟨z, rfl, hal, h5⟩ := h4
      cases r4
      obtain ⟨hD4, nS4, nF4⟩ := e4.keep D _ hD3 nS3
      have nF4' : ¬ F4 D := fun z => nF (nF2 (nF3 (nF4 z)))
      obtain ⟨s5, e5, f5⟩ := hid_write (o := SetO w D (fun j => M j || decide (j = z)) (if M z = true then k else k + 1)) s1 s4 nF4' nS4 (e13.trans e4) hD
      refine ⟨z, M, k, rfl, hD4, by unfold scanBound; omega, _, rfl, hlt, F4, S4, acc ++ [z], _, _, s5, e5, upd_same, nF4', nS4, fun j => ?_, ?_, h5⟩
      · rw [Bool.or_eq_true, hM, decide_eq_true_eq, List.mem_append, List.mem_singleton]
      · rw [List.length_append, List.length_singleton]; split <;> omega
  · have ei : i = xs.length := by omega
    subst ei
    rw [List.drop_length] at hl
    exact .inl ⟨wk.stop _ F' H' S' (e'.f s1) s' hl.1 (Nat.le_refl _), fin acc S' hl.2 F' H' D M k (e1.trans e') s' hD' nF nS hM hk⟩
/-- sorted({..}) -/
theorem s_srtsc {sc : Expr} {m : Bool} {p : Pos} {own : List Nat} {g : Tg} {wi : WI} {wt : Env → Sto → (Bool → Sto → Prop) → Prop} {we : Env → Sto → Post → Prop} (hc : X.calm = true) (hg : Gl X "sorted") (hm : X.mg "sorted" = none) (hown : ∀ i ∈ g.slots, i ∈ own)
    (key : PE X sc (tScI X.w (tI X.K cls wi) (gOf X.K g) (tB' X.K cls wt) (tE X.K cls we) own)) (hs : starEach [sc] X.env = [(false, eval sc X.env)]) :
    PE X (.Call (.Name "sorted" p) [sc] [] pos) (tE X.K cls fun ρ S R => wi ρ S fun xs gd S1 => scW own g gd wt we (srtW m R) ρ xs [] S1) := by
  have k2 := pe_callB (p := p) (pos := pos) (cr_sortedSet hc) hg hm (by decide +kernel) (pa_cons key pa_nil hs) (by decide) (by decide) hs rfl
  refine k2.imp fun σ H Q ⟨F, S, ρ, R, sr, er, hw, l⟩ => ?_
  show tScI X.w (tI X.K cls wi) (gOf X.K g) (tB' X.K cls wt) (tE X.K cls we) own σ H (fun v H1 => rSortedSet X.w [v] H1 Q)
  refine sc_imp (Kx := srtW m) hown σ H _ ⟨F, S, ρ, R, sr, er, hw, fun acc S' hk F' H' D M n e1 s1 hD nF nS hM hn => ?_⟩
  refine ⟨D, M, n, rfl, hD, by have := hk.1; omega, fun ns' p2 w1 w2 _ hp2 => ?_⟩
  exact alloc_ok (l.step e1).lq s1 (hk.2 ns' w1 fun k => by rw [w2, hM]) (vrels_ints ns') p2 hp2
/-! ### two walks in one comprehension -/
theorem lc2_imp {K : PySem.W.Frag} {m : Bool} {own vs : List Nat} {g g1 : Tg} {wi wi1 : WI} {wt wt1 : Env → Sto → (Bool → Sto → Prop) → Prop} {we : Env → Sto → Post → Prop} (hown : ∀ i ∈ g.slots, i ∈ own) (hown1 : ∀ i ∈ g1.slots, i ∈ vs) (σ : L2.St) (H : Hp) (Q : VK)
    (hh : tE K cls (fun ρ S R => wi ρ S fun xs gd S1 => loW m own vs g gd wt wi1 g1 wt1 we R ρ xs [] S1) σ H Q) : tLc2 (tI K cls wi) (gOf K g) (tB' K cls wt) (tI K cls wi1) (gOf K g1) (tB' K cls wt1) (tE K cls we) own vs σ H Q := by
  obtain ⟨F, S, ρ, R, sr, er, hw, l⟩ := hh
  refine ⟨F, S, ρ, _, sr, er, hw, fun xs gd S1 h1 F1 H1 J e1 s1 g1' wk D hD => ?_⟩
  obtain ⟨s2, e2⟩ := hid_new (o := .lst []) s1 hD
  have l1 := l.step e1
  refine ⟨fun i n H' => n = xs.length - i ∧ i ≤ xs.length ∧ ∃ F' S' acc vacc, SR K cls F' H' S' ∧ Ext F1 H1 S1 F' H' S' ∧ H' D = some (.lst vacc) ∧ ¬ F' D ∧ S' D = none ∧ VRels K F' H' vacc acc ∧ loW m own vs g gd wt wi1 g1 wt1 we R ρ (xs.drop i) acc S',
    ⟨xs.length, by simp, Nat.zero_le _, F1, S1, [], [], s2, e2, upd_same, s1.notF hD, s1.notS hD, .nil, h1⟩, ?_⟩
  rintro i n H' ⟨rfl, hi, F', S', acc, vacc, s', e', hD', nF, nS, ra, hl⟩
  by_cases hlt : i < xs.length
  · obtain ⟨x0, hx0⟩ : ∃ x, xs[i]? = some x := ⟨_, List.getElem?_eq_getElem hlt⟩
    rw [len_drop hx0] at hl
    obtain ⟨hgd, hl⟩ := hl
    refine .inr ⟨wk.go i F' H' S' (e'.f s1) s' hgd hlt, fun H'' => ∃ n, n = xs.length - (i + 1) ∧ i + 1 ≤ xs.length ∧ ∃ F' S' acc vacc, SR K cls F' H'' S' ∧ Ext F1 H1 S1 F' H'' S' ∧ H'' D = some (.lst vacc) ∧ ¬ F' D ∧ S' D = none ∧ VRels K F' H'' vacc acc ∧ loW m own vs g gd wt wi1 g1 wt1 we R ρ (xs.drop (i + 1)) acc S',
      fun H'' ⟨n, hn⟩ => ⟨n, by omega, hn⟩, fun x H2 hy => ?_⟩
    obtain ⟨F2, u, hu, e2, s2, r2⟩ := wk.yld i F' H' S' x H2 (e'.f s1) s' hgd hlt hy
    rw [hx0] at hu; cases hu
    obtain ⟨hD2, nS2, nF2⟩ := e2.keep D _ hD' nS
    refine g_ok hl r2 ((er.ext ((e1.trans (e'.trans e2)).f sr)).wipe own) fun ρ2 σ2 hc er2 hws => ⟨(hws own hown).trans (wipe_wipe σ own own fun _ h => h), F2, S', ρ2, _, s2, er2, hc, fun b S3 h3 F3 H3 b' e3 s3 r3 => ?_⟩
    cases r3
    obtain ⟨hD3, nS3, nF3⟩ := e3.keep D _ hD2 nS2
    have nF3' : ¬ F3 D := fun z => nF (nF2 (nF3 z))
    have e13 := e'.trans (e2.trans e3)
    have ra3 := ra.ext ((e2.trans e3).f s')
    have er3 := er2.ext (e3.f s2)
    cases b with
    | false =>
      rw [if_neg Bool.false_ne_true] at h3 ⊢
      exact ⟨_, rfl, hlt, F3, S3, acc, vacc, s3, e13, hD3, nF3', nS3, ra3, h3⟩
    | true =>
      rw [if_pos rfl] at h3 ⊢
      refine ⟨F3, S3, ρ2, _, s3, er3, h3, fun ys gd1 S4 h4 F4 H4 J1 e4 s4 g4 wk1 => ?_⟩
      obtain ⟨hD4, nS4, nF4⟩ := e4.keep D _ hD3 nS3
      refine ⟨fun j k G => k = ys.length - j ∧ j ≤ ys.length ∧ ∃ F' S' acc vacc, SR K cls F' G S' ∧ Ext F1 H1 S1 F' G S' ∧ FExt F4 H4 F' G ∧ G D = some (.lst vacc) ∧ ¬ F' D ∧ S' D = none ∧ VRels K F' G vacc acc ∧ liW vs g1 gd1 wt1 we (fun acc' S' => loW m own vs g gd wt wi1 g1 wt1 we R ρ (xs.drop (i + 1)) acc' S') ρ2 (ys.drop j) acc S',
        ⟨ys.length, by simp, Nat.zero_le _, F4, S4, acc, vacc, s4, e13.trans e4, .refl, hD4, fun z => nF3' (nF4 z), nS4, ra3.ext (e4.f s3), h4⟩, ?_⟩
      rintro j k G ⟨rfl, hj, F5, S5, acc, vacc, s5, e5, f5, hD5, nF5, nS5, ra5, hl5⟩
      by_cases hlt1 : j < ys.length
      · obtain ⟨y0, hy0⟩ : ∃ y, ys[j]? = some y := ⟨_, List.getElem?_eq_getElem hlt1⟩
        rw [len_drop hy0] at hl5
        obtain ⟨hgd1, hl5⟩ := hl5
        refine .inr ⟨wk1.go j F5 G S5 f5 s5 hgd1 hlt1, fun G => ∃ k, k = ys.length - (j + 1) ∧ j + 1 ≤ ys.length ∧ ∃ F' S' acc vacc, SR K cls F' G S' ∧ Ext F1 H1 S1 F' G S' ∧ FExt F4 H4 F' G ∧ G D = some (.lst vacc) ∧ ¬ F' D ∧ S' D = none ∧ VRels K F' G vacc acc ∧ liW vs g1 gd1 wt1 we (fun acc' S' => loW m own vs g gd wt wi1 g1 wt1 we R ρ (xs.drop (i + 1)) acc' S') ρ2 (ys.drop (j + 1)) acc S',
          fun G ⟨k, hk⟩ => ⟨k, by omega, hk⟩, fun y H6 hy6 => ?_⟩
        obtain ⟨F6, u, hu, e6, s6, r6⟩ := wk1.yld j F5 G S5 y H6 f5 s5 hgd1 hlt1 hy6
        rw [hy0] at hu; cases hu
        obtain ⟨hD6, nS6, nF6⟩ := e6.keep D _ hD5 nS5
        have f6 : FExt F4 H4 F6 H6 := f5.trans (e6.f s5)
        refine g_ok hl5 r6 ((er3.ext ((e4.f s3).trans f6)).wipe vs) fun ρ3 σ3 hc7 er7 hws7 => ⟨(hws7 vs hown1).trans (wipe_wipe σ2 vs vs fun _ h => h), F6, S5, ρ3, _, s6, er7, hc7, fun b S7 h7 F7 H7 b' e7 s7 r7 => ?_⟩
        cases r7
        obtain ⟨hD7, nS7, nF7⟩ := e7.keep D _ hD6 nS6
        have nF7' : ¬ F7 D := fun z => nF5 (nF6 (nF7 z))
        have f7 := f6.trans (e7.f s6)
        have e17 := e5.trans (e6.trans e7)
        have ra7 := ra5.ext ((e6.trans e7).f s5)
        cases b with
        | false =>
          rw [if_neg Bool.false_ne_true] at h7 ⊢
          exact ⟨_, rfl, hlt1, F7, S7, acc, vacc, s7, e17, f7, hD7, nF7', nS7, ra7, h7⟩
        | true =>
          rw [if_pos rfl] at h7 ⊢
          refine ⟨F7, S7, ρ3, _, s7, er7.ext (e7.f s6), h7, fun z S8 h8 F8 H8 z' e8 s8 r8 => ?_⟩
          obtain ⟨hD8, nS8, nF8⟩ := e8.keep D _ hD7 nS7
          have nF8' : ¬ F8 D := fun z => nF7' (nF8 z)
          obtain ⟨s9, e9, f9⟩ := hid_write (o := .lst (vacc ++ [z'])) s1 s8 nF8' nS8 (e17.trans e8) hD
          exact ⟨vacc, hD8, by rw [ra5.length]; exact h8.1, _, rfl, hlt1, F8, S8, acc ++ [z], vacc ++ [z'], s9, e9, (f7.trans (e8.f s7)).trans f9, upd_same, nF8', nS8, ((ra7.ext (e8.f s7)).append (.cons r8 .nil)).ext f9, h8.2⟩
      · have ej : j = ys.length := by omega
        subst ej
        rw [List.drop_length] at hl5
        exact .inl ⟨wk1.stop _ F5 G S5 f5 s5 hl5.1 (Nat.le_refl _), _, rfl, hlt, F5, S5, acc, vacc, s5, e5, hD5, nF5, nS5, ra5, hl5.2⟩
  · have ei : i = xs.length := by omega
    subst ei
    rw [List.drop_length] at hl
    exact .inl ⟨wk.stop _ F' H' S' (e'.f s1) s' hl.1 (Nat.le_refl _), hid_out s1 s' nF nS hD' ra e' hD hl.2 l1⟩
end
end Mm
/-! MmH: statements -/
namespace Mm
open PySem PySem.Spec PyProof.Rows L2
/-- the ends of a statement, brought to the layer below -/
structure Lk (K : PySem.W.Frag) (cls : Anc) (F : Addr → Prop) (H : Hp) (S : Sto) (R : Out) (D : Ends) : Prop where
  nx : ∀ ρ' S', R.nx ρ' S' → ∀ F' H' σ', Ext F H S F' H' S' → SR K cls F' H' S' → ER K F' H' σ' ρ' → D.nx σ' H'
  rt : LG (VRel K) K cls F H S R.rt D.rt
  bk : ∀ ρ' S', R.bk ρ' S' → ∀ F' H' σ', Ext F H S F' H' S' → SR K cls F' H' S' → ER K F' H' σ' ρ' → D.bk σ' H'
  ct : ∀ ρ' S', R.ct ρ' S' → ∀ F' H' σ', Ext F H S F' H' S' → SR K cls F' H' S' → ER K F' H' σ' ρ' → D.ct σ' H'
abbrev WC := Env → Sto → Out → Prop
def tC' (K : PySem.W.Frag) (cls : Anc) (w : WC) : TS := fun D σ H => ∃ F S ρ R, SR K cls F H S ∧ ER K F H σ ρ ∧ w ρ S R ∧ Lk K cls F H S R D
section
variable {X : Cx} {cls : Anc} {F F1 : Addr → Prop} {H H1 : Hp} {S S1 : Sto} {R : Out} {D : Ends}
theorem Lk.step (l : Lk X.K cls F H S R D) (e : Ext F H S F1 H1 S1) : Lk X.K cls F1 H1 S1 R D :=
  ⟨fun ρ' S' r F' H' σ' e' => l.nx ρ' S' r F' H' σ' (e.trans e'), l.rt.step e, fun ρ' S' r F' H' σ' e' => l.bk ρ' S' r F' H' σ' (e.trans e'), fun ρ' S' r F' H' σ' e' => l.ct ρ' S' r F' H' σ' (e.trans e')⟩
variable {a b c e o t : Expr} {st : Stmt} {sts rest : List Stmt} {wa wb wc wo we : Env → Sto → Post → Prop} {wt : Env → Sto → (Bool → Sto → Prop) → Prop} {w1 w2 : WC} {pos pos' : Pos} {x : Str} {i : Nat}
theorem c_nil : PSs X [] (tC' X.K cls fun ρ S D => D.nx ρ S) := pss_nil.imp fun D σ H ⟨F, S, ρ, R, sr, er, hw, l⟩ => l.nx _ _ hw F H σ .refl sr er
theorem c_cons (h1 : PS X st (tC' X.K cls w1)) (h2 : PSs X rest (tC' X.K cls w2)) : PSs X (st :: rest) (tC' X.K cls fun ρ S D => w1 ρ S { D with nx := fun ρ' S' => w2 ρ' S' D }) :=
  (pss_cons h1 h2).imp fun D σ H ⟨F, S, ρ, R, sr, er, hw, l⟩ => ⟨F, S, ρ, _, sr, er, hw, fun ρ' S' h F' H' σ' e' s' er' => ⟨F', S', ρ', R, s', er', h, l.step e'⟩, l.rt, l.bk, l.ct⟩
theorem c_pas : PS X (.Pass pos) (tC' X.K cls fun ρ S D => D.nx ρ S) := ps_pass.imp fun D σ H ⟨F, S, ρ, R, sr, er, hw, l⟩ => l.nx _ _ hw F H σ .refl sr er
theorem c_brk : PS X (.Break pos) (tC' X.K cls fun ρ S D => D.bk ρ S) := ps_break.imp fun D σ H ⟨F, S, ρ, R, sr, er, hw, l⟩ => l.bk _ _ hw F H σ .refl sr er
theorem c_cnt : PS X (.Continue pos) (tC' X.K cls fun ρ S D => D.ct ρ S) := ps_continue.imp fun D σ H ⟨F, S, ρ, R, sr, er, hw, l⟩ => l.ct _ _ hw F H σ .refl sr er
theorem c_never : PS X st (tC' X.K cls fun _ _ _ => False) := ps_never.imp fun D σ H ⟨F, S, ρ, R, sr, er, hw, l⟩ => hw
theorem c_ex (he : PE X e (tE X.K cls we)) (hs : swapsWith e none pos.line X.env = pure false) : PS X (.Expr e pos) (tC' X.K cls fun ρ S D => we ρ S fun _ S1 => D.nx ρ S1) :=
  (ps_expr he hs).imp fun D σ H ⟨F, S, ρ, R, sr, er, hw, l⟩ => ⟨F, S, ρ, _, sr, er, hw, fun u S1 h1 F1 H1 v e1 s1 r1 => l.nx _ _ h1 F1 H1 σ e1 s1 (er.ext (e1.f sr))⟩
theorem c_ret (he : PE X e (tE X.K cls we)) : PS X (.Return (some e) pos) (tC' X.K cls fun ρ S D => we ρ S D.rt) :=
  (ps_ret he).imp fun D σ H ⟨F, S, ρ, R, sr, er, hw, l⟩ => ⟨F, S, ρ, _, sr, er, hw, l.rt⟩
theorem c_retN : PS X (.Return none pos) (tC' X.K cls fun _ S D => D.rt .non S) :=
  ps_retN.imp fun D σ H ⟨F, S, ρ, R, sr, er, hw, l⟩ => l.rt.now sr hw .non
theorem c_ite (ht : PT X t (tB' X.K cls wt)) (h1 : PSs X sts (tC' X.K cls w1)) (h2 : PSs X rest (tC' X.K cls w2)) : PS X (.If t sts rest pos) (tC' X.K cls fun ρ S D => wt ρ S fun k S1 => if k then w1 ρ S1 D else w2 ρ S1 D) := by
  refine (ps_if ht h1 h2).imp fun D σ H ⟨F, S, ρ, R, sr, er, hw, l⟩ => ⟨F, S, ρ, _, sr, er, hw, fun k S1 h F1 H1 k' e1 s1 r1 => ?_⟩
  cases r1
  cases k with
  | true => exact ⟨F1, S1, ρ, R, s1, er.ext (e1.f sr), h, l.step e1⟩
  | false => exact ⟨F1, S1, ρ, R, s1, er.ext (e1.f sr), h, l.step e1⟩
theorem set_key (he : PE X e (tE X.K cls we)) {p : TS} (hp : PS X st (tAsg (tE X.K cls we) (gName i))) : PS X st (tC' X.K cls fun ρ S D => we ρ S fun u S1 => D.nx (ρ.set i (some u)) S1) :=
  hp.imp fun D σ H ⟨F, S, ρ, R, sr, er, hw, l⟩ => ⟨F, S, ρ, _, sr, er, hw, fun u S1 h1 F1 H1 v e1 s1 r1 => l.nx _ _ h1 F1 H1 _ e1 s1 ((er.ext (e1.f sr)).set r1 i)⟩
theorem c_asg {g : Tg} (hp : PS X st (tAsg (tE X.K cls we) (gOf X.K g))) : PS X st (tC' X.K cls fun ρ S D => we ρ S fun u S1 => tgW g u ρ fun ρ' => D.nx ρ' S1) :=
  hp.imp fun D σ H ⟨F, S, ρ, R, sr, er, hw, l⟩ => ⟨F, S, ρ, _, sr, er, hw, fun u S1 h1 F1 H1 v e1 s1 r1 => g_ok h1 r1 (er.ext (e1.f sr)) fun ρ' σ' h er' _ => l.nx _ _ h F1 H1 σ' e1 s1 er'⟩
/-- o[i] = e -/
def rSetA (K : PySem.W.Frag) : TSet := fun o i v H Q => L2.rSetL o i v H Q ∨ rSetD o i v H Q ∨ rSetN K o i v H Q
theorem set_any (hu : X.A.units + 9 < cLine) : PSet X (rSetA X.K) := by
  intro pins s σ H o i v ov iv u Q I ro ri rv h
  rcases h with h | h | h
  · exact set_list pins s σ H o i v ov iv u Q I ro ri rv h
  · exact set_dict (by omega) pins s σ H o i v ov iv u Q I ro ri rv h
  · exact set_N hu pins s σ H o i v ov iv u Q I ro ri rv h
theorem c_setIx {io : Expr} {wi' : Env → Sto → Post → Prop} (he : PE X e (tE X.K cls we)) (ho : PE X o (tE X.K cls wo)) (hi : PE X io (tE X.K cls wi'))
    (hp : PS X st (tAsg (tE X.K cls we) (gSub (tE X.K cls wo) (tE X.K cls wi') (rSetA X.K)))) :
    PS X st (tC' X.K cls fun ρ S D => we ρ S fun u S1 => wo ρ S1 fun x S2 => wi' ρ S2 fun y S3 => setIxW x y u S3 fun S4 => D.nx ρ S4) := by
  refine hp.imp fun D σ H ⟨F, S, ρ, R, sr, er, hw, l⟩ => ⟨F, S, ρ, _, sr, er, hw, fun u S1 h1 F1 H1 v e1 s1 r1 => ?_⟩
  refine ⟨F1, S1, ρ, _, s1, er.ext (e1.f sr), h1, fun x S2 h2 F2 H2 w e2 s2 r2 => ?_⟩
  refine ⟨F2, S2, ρ, _, s2, er.ext ((e1.trans e2).f sr), h2, fun y S3 h3 F3 H3 z e3 s3 r3 => ?_⟩
  have ru := r1.ext ((e2.trans e3).f s1)
  have e13 := e1.trans (e2.trans e3)
  cases x <;> first | exact h3.elim | skip
  cases r2
  next a =>
  simp only [setIxW] at h3
  split at h3
  · next xs ha =>
    obtain ⟨k, j, rfl, hj, h4⟩ := h3
    cases r3
    obtain ⟨vs, hv, rv⟩ := s3.sto a _ ha
    have fw := s3.fe_write (o := .lst (vs.set j v)) ha
    obtain ⟨s4, e4, f4⟩ := s3.write (o := .lst (vs.set j v)) (ob := .lst (xs.set j u)) ha ⟨_, upd_same, (rv.ext fw).set j (ru.ext fw)⟩
    have e14 := e13.trans e4
    exact .inl ⟨a, vs, k, j, rfl, rfl, hv, by rw [rv.length]; exact hj, l.nx _ _ h4 F3 _ σ e14 s4 (er.ext (e14.f sr))⟩
  · next kvs ha =>
    obtain ⟨q, hq, hl, h4⟩ := h3
    obtain ⟨vs, hv, rv⟩ := s3.sto a _ ha
    have fw := s3.fe_write (o := .dK (putK vs q v)) ha
    obtain ⟨s4, e4, f4⟩ := s3.write (o := .dK (putK vs q v)) (ob := .dct (putA kvs q u)) ha ⟨_, upd_same, (rv.ext fw).put q (ru.ext fw)⟩
    have e14 := e13.trans e4
    exact .inr (.inl ⟨a, _, rfl, .inl ⟨vs, q, hv, keyU_ok r3 hq, by rw [rv.length]; exact hl, rfl⟩, l.nx _ _ h4 F3 _ σ e14 s4 (er.ext (e14.f sr))⟩)
  · next kvs ha =>
    obtain ⟨t, q, n, rfl, hq, hd, rfl, hl, h4⟩ := h3
    cases ru
    obtain ⟨P, w', xs, hv, rv⟩ := s3.sto a _ ha
    have nk := nkU_ok r3 hq
    have r3' := r3
    cases r3 with
    | @tup b ws _ tb rb =>
    refine .inr (.inr ⟨b, a, P, w', xs, q, n, rfl, rfl, rfl, hv, rv.keys, nk, hd, by rw [rv.length]; exact hl, fun t P w => ?_⟩)
    have fw := s3.fe_write (o := DnO P w a (storedH xs q b (.int n t))) ha
    obtain ⟨s4, e4, f4⟩ := s3.write (o := DnO P w a (storedH xs q b (.int n t))) (ob := .dnk (putA kvs q n)) ha ⟨P, w, _, upd_same, (rv.ext fw).put (r3'.ext fw) hq hd n t⟩
    have e14 := e13.trans e4
    exact l.nx _ _ h4 F3 _ σ e14 s4 (er.ext (e14.f sr))
  · exact h3.elim
theorem FRel.put {K : PySem.W.Frag} {F : Addr → Prop} {H : Hp} {f : Str} {v : V} {u : U} (h : VRel K F H v u) {vs : List (Str × V)} {us : List (Str × U)} (r : FRel K F H vs us) : FRel K F H (putF f v vs) (putU f u us) := by
  induction r with
  | nil => exact .cons h .nil
  | @cons g w y vs us hw r ih =>
    unfold putF putU
    by_cases e : g = f
    · rw [if_pos e, if_pos e]; exact .cons h r
    · rw [if_neg e, if_neg e]; exact .cons hw ih
/-- o.f = e -/
theorem c_setF {at_ : Nat → Str → Bool} {f : Str} (hat : ∀ c C, cls.cls[c]? = some C → Cls X.K C ∧ (at_ c f = true → NoAttr X.K C f)) (he : PE X e (tE X.K cls we)) (ho : PE X o (tE X.K cls wo)) (hs : swapsWith e (some (.Attribute o f pos')) pos.line X.env = pure false) :
    PS X (.Assign [.Attribute o f pos'] e pos) (tC' X.K cls fun ρ S D => we ρ S fun u S1 => wo ρ S1 fun x S2 => ∃ a c fs, x = .ref a ∧ S2 a = some (.ins c fs) ∧ at_ c f = true ∧ fs.length < 100 ∧ D.nx ρ (S2.put a (.ins c (putU f u fs)))) := by
  refine (ps_fld ho he hs).imp fun D σ H ⟨F, S, ρ, R, sr, er, hw, l⟩ => ⟨F, S, ρ, _, sr, er, hw, fun u S1 h1 F1 H1 v e1 s1 r1 => ?_⟩
  refine ⟨F1, S1, ρ, _, s1, er.ext (e1.f sr), h1, fun x S2 h2 F2 H2 w e2 s2 r2 => ?_⟩
  obtain ⟨a, c, fs, rfl, ha, h3, h4, h5⟩ := h2
  cases r2
  obtain ⟨C, dx, vfs, hC, hH, rf⟩ := s2.sto a _ ha
  have fw := s2.fe_write (o := .ins C dx (putF f v vfs)) ha
  obtain ⟨s3, e3, f3⟩ := s2.write (o := .ins C dx (putF f v vfs)) (ob := .ins c (putU f u fs)) ha ⟨C, dx, _, hC, upd_same, (rf.ext fw).put ((r1.ext (e2.f s1)).ext fw)⟩
  have e13 := e1.trans (e2.trans e3)
  exact ⟨a, C, dx, vfs, rfl, hH, (hat c C hC).1, (hat c C hC).2 h3, by rw [rf.length]; omega, l.nx _ _ h5 F2 _ σ e13 s3 (er.ext (e13.f sr))⟩
/-- x += e -/
theorem c_aug {op : Bop} (hop : op = .add ∨ op = .sub) (hN : X.N.Nodup) (hi : X.N[i]? = some x) (hx : Loc X.env.scope x) (he : PE X e (tE X.K cls we)) (hf : X.fn x = true ∨ X.env.scope.names.lookup x = some .local) :
    PS X (.AugAssign (.Name x pos') op.op e pos) (tC' X.K cls fun ρ S D => ∃ z, ρ[i]? = some (some z) ∧ we ρ S fun y S1 => match z, y with
      | .int _, .int _ => (op = .add ∨ op = .sub) ∧ bopW op false z y S1 fun z S2 => D.nx (ρ.set i (some z)) S2
      | _, _ => False) := by
  have key : ∀ {g : Int → Int → Int}, PIp X op.op (ipI g) → (∀ (i j : Int) S R, bopW op false (.int i) (.int j) S R → R (.int (g i j)) S) → PS X (.AugAssign (.Name x pos') op.op e pos) (tC' X.K cls fun ρ S D => ∃ z, ρ[i]? = some (some z) ∧ we ρ S fun y S1 => match z, y with
      | .int _, .int _ => (op = .add ∨ op = .sub) ∧ bopW op false z y S1 fun z S2 => D.nx (ρ.set i (some z)) S2
      | _, _ => False) := fun {g} hp hg => by
    refine (ps_aug hN hi hx he hp hf).imp fun D σ H ⟨F, S, ρ, R, sr, er, ⟨z, hz, hw⟩, l⟩ => ?_
    obtain ⟨v, hv, rv⟩ := er.at_ i z hz
    refine ⟨v, hv, F, S, ρ, _, sr, er, hw, fun y S1 h1 F1 H1 w e1 s1 r1 => ?_⟩
    cases z <;> first | exact h1.elim | skip
    cases y <;> first | exact h1.elim | skip
    cases rv; cases r1
    exact ⟨_, _, rfl, rfl, l.nx _ _ (hg _ _ _ _ h1.2) F1 H1 _ e1 s1 ((er.ext (e1.f sr)).set (.int _) i)⟩
  rcases hop with rfl | rfl
  · exact key ip_add fun _ _ _ _ h => h
  · exact key ip_sub fun _ _ _ _ h => h
/-- while -/
theorem c_whl (hp : PassesOwn (model X.prog X.w) X.A X.env X.xe) (ht : PT X t (tB' X.K cls wt)) (hb : PSs X sts (tC' X.K cls w1)) :
    PS X (.While t sts [] pos) (tC' X.K cls fun ρ S D => ∃ I : Nat → Env → Sto → Prop, (∃ n, I n ρ S) ∧ ∀ n ρ S, I n ρ S → wt ρ S fun k S1 =>
      if k then w1 ρ S1 { nx := fun ρ' S' => ∃ m, m < n ∧ I m ρ' S', ct := fun ρ' S' => ∃ m, m < n ∧ I m ρ' S', bk := D.nx, rt := D.rt } else D.nx ρ S1) := by
  refine (ps_while hp ht hb).imp fun D σ H ⟨F, S, ρ, R, sr, er, ⟨I, ⟨n, h0⟩, hI⟩, l⟩ => ?_
  refine ⟨fun m σ' H' => ∃ F' S' ρ', SR X.K cls F' H' S' ∧ ER X.K F' H' σ' ρ' ∧ Ext F H S F' H' S' ∧ I m ρ' S', ⟨n, F, S, ρ, sr, er, .refl, h0⟩, ?_⟩
  rintro m σ' H' ⟨F', S', ρ', s', er', e', hm⟩
  refine ⟨F', S', ρ', _, s', er', hI m ρ' S' hm, fun k S1 h1 F1 H1 k' e1 s1 r1 => ?_⟩
  cases r1
  cases k with
  | false => exact l.nx _ _ h1 F1 H1 σ' (e'.trans e1) s1 (er'.ext (e1.f s'))
  | true =>
    refine ⟨fun σ2 H2 => ∃ m', m' < m ∧ ∃ F' S' ρ', SR X.K cls F' H2 S' ∧ ER X.K F' H2 σ2 ρ' ∧ Ext F H S F' H2 S' ∧ I m' ρ' S', fun σ2 H2 h => h, F1, S1, ρ', _, s1, er'.ext (e1.f s'), h1, ?_⟩
    have stp : ∀ ρ2 S2, (∃ m', m' < m ∧ I m' ρ2 S2) → ∀ F2 H2 σ2, Ext F1 H1 S1 F2 H2 S2 → SR X.K cls F2 H2 S2 → ER X.K F2 H2 σ2 ρ2 → ∃ m', m' < m ∧ ∃ F' S' ρ', SR X.K cls F' H2 S' ∧ ER X.K F' H2 σ2 ρ' ∧ Ext F H S F' H2 S' ∧ I m' ρ' S' :=
      fun ρ2 S2 ⟨m', hm, hI⟩ F2 H2 σ2 e2 s2 er2 => ⟨m', hm, F2, S2, ρ2, s2, er2, e'.trans (e1.trans e2), hI⟩
    exact ⟨stp, l.rt.step (e'.trans e1), fun ρ2 S2 h F2 H2 σ2 e2 => l.nx _ _ h F2 H2 σ2 (e'.trans (e1.trans e2)), stp⟩
/-- for -/
theorem c_for {g : Tg} {wi : WI} (key : PS X st (tFor (tI X.K cls wi) (gOf X.K g) (tC' X.K cls w1))) : PS X st (tC' X.K cls fun ρ S D => wi ρ S fun xs gd S1 => forW g gd w1 D xs ρ S1) := by
  refine key.imp fun D σ H ⟨F, S, ρ, R, sr, er, hw, l⟩ => ⟨F, S, ρ, _, sr, er, hw, fun xs gd S1 h1 F1 H1 J e1 s1 g1 wk => ?_⟩
  refine ⟨fun i n σ' H' => n = xs.length - i ∧ i ≤ xs.length ∧ ∃ F' S' ρ', SR X.K cls F' H' S' ∧ ER X.K F' H' σ' ρ' ∧ Ext F1 H1 S1 F' H' S' ∧ forW g gd w1 R (xs.drop i) ρ' S', ⟨xs.length, by simp, Nat.zero_le _, F1, S1, ρ, s1, er.ext (e1.f sr), .refl, h1⟩, ?_⟩
  rintro i n σ' H' ⟨rfl, hi, F', S', ρ', s', er', e', hf⟩
  by_cases hlt : i < xs.length
  · obtain ⟨x0, hx0⟩ : ∃ x, xs[i]? = some x := ⟨_, List.getElem?_eq_getElem hlt⟩
    rw [len_drop hx0] at hf
    obtain ⟨hgd, hf⟩ := hf
    refine .inr ⟨wk.go i F' H' S' (e'.f s1) s' hgd hlt, fun σ2 H2 => ∃ n, n = xs.length - (i + 1) ∧ i + 1 ≤ xs.length ∧ ∃ F' S' ρ', SR X.K cls F' H2 S' ∧ ER X.K F' H2 σ2 ρ' ∧ Ext F1 H1 S1 F' H2 S' ∧ forW g gd w1 R (xs.drop (i + 1)) ρ' S',
      fun σ2 H2 ⟨n, hn⟩ => ⟨n, by omega, hn⟩, fun x H2 hy => ?_⟩
    obtain ⟨F2, u, hu, e2, s2, r2⟩ := wk.yld i F' H' S' x H2 (e'.f s1) s' hgd hlt hy
    rw [hx0] at hu; cases hu
    refine g_ok hf r2 (er'.ext (e2.f s')) fun ρ2 σ2 hb er2 _ => ⟨F2, S', ρ2, _, s2, er2, hb, ?_⟩
    have stp : ∀ ρ3 S3, forW g gd w1 R (xs.drop (i + 1)) ρ3 S3 → ∀ F3 H3 σ3, Ext F2 H2 S' F3 H3 S3 → SR X.K cls F3 H3 S3 → ER X.K F3 H3 σ3 ρ3 → ∃ n, n = xs.length - (i + 1) ∧ i + 1 ≤ xs.length ∧ ∃ F' S' ρ', SR X.K cls F' H3 S' ∧ ER X.K F' H3 σ3 ρ' ∧ Ext F1 H1 S1 F' H3 S' ∧ forW g gd w1 R (xs.drop (i + 1)) ρ' S' :=
      fun ρ3 S3 h F3 H3 σ3 e3 s3 er3 => ⟨_, rfl, hlt, F3, S3, ρ3, s3, er3, e'.trans (e2.trans e3), h⟩
    exact ⟨stp, l.rt.step (e1.trans (e'.trans e2)), fun ρ3 S3 h F3 H3 σ3 e3 => l.nx _ _ h F3 H3 σ3 (e1.trans (e'.trans (e2.trans e3))), stp⟩
  · have ei : i = xs.length := by omega
    subst ei
    rw [List.drop_length] at hf
    exact .inl ⟨wk.stop _ F' H' S' (e'.f s1) s' hf.1 (Nat.le_refl _), l.nx _ _ hf.2 F' H' σ' (e1.trans e') s' er'⟩
/-- a try that runs through -/
theorem c_tryN {h₀ : ExceptHandler} {hs : List ExceptHandler} (hb : PSs X.nox sts (tC' X.K cls w1)) : PS X (.Try sts (h₀ :: hs) [] [] pos) (tC' X.K cls w1) := ps_try_thru0 hb
/-! match -/
/-- the cases from here on -/
structure PK (X : Cx) (cls : Anc) (cases : List MatchCase) (w : U → WC) : Prop where
  run : ∀ (pins : List (Addr × Obj)) (s : Shared) (σ : L2.St) (H : Hp) (D : Ends) (v : V) (x : U) (u : Value) (first : Bool) (F : Addr → Prop) (S : Sto) (ρ : Env) (R : Out), Inv X pins σ H s → RelV v u → VRel X.K F H v x → SR X.K cls F H S → ER X.K F H σ ρ → w x ρ S R → Lk X.K cls F H S R D →
    wpAny (model X.prog X.w) X.A (matchCases cases X.env u first) (SP X pins D) X.xe s
/-- a pattern that binds nothing: it matches these texts -/
def PPt (X : Cx) (p : Pattern) (ps : List (List Nat)) : Prop :=
  ∀ (pins : List (Addr × Obj)) (s : Shared) (σ : L2.St) (H : Hp) (v : V) (x : U) (u : Value) (F : Addr → Prop), Inv X pins σ H s → RelV v u → VRel X.K F H v x → eqable x →
    wpAny (model X.prog X.w) X.A (matchPattern p X.env u) (fun r s' => Inv X pins σ H s' ∧ r = if ps.any (fun p => ueq x (.str p)) then some [] else none) X.xe s
theorem pp_val (hu : X.A.units + 128 < cLine) {z : List Nat} (hz : (U.str z).data = true) {j : Nat} {p1 p2 : Pos} : PPt X (.MatchValue (.Constant (.str ⟨z.toArray⟩) j p1) p2) [z] := by
  intro pins s σ H v x u F I rv rx hx
  refine wpAny_matchPattern_Value (Calls.Constant_str ?_)
  have hs : eqable (.str z) := ⟨hz, Nat.zero_le _⟩
  refine thn (op_eqM hu pins _ σ H v (.str ⟨z.toArray⟩) u _ (fun y H' => y = .bl (ueq x (.str z)) ∧ H' = H) (I.tok _) rv ⟨_, rfl⟩ ⟨_, _, rx.dp hx.1, Dp.str _, data_lay _ hx.1, data_lay (.str z) hz, by rw [dep_py]; exact hx.2, ?_, rfl⟩) fun w s1 ⟨y, H1, I1, r1, e1, e2⟩ => ?_
  · rw [← eqv_py x (.str z) hx.1 hz]; rfl
  · subst e1 e2
    cases r1
    refine wpAny_truthy_bool ?_
    rw [List.any_cons, List.any_nil, Bool.or_false]
    cases ueq x (.str z) with
    | true => exact ⟨I1, rfl⟩
    | false => exact ⟨I1, rfl⟩
/-- the patterns behind a bar -/
inductive PPs (X : Cx) : List Pattern → List (List Nat) → Prop where
  | nil : PPs X [] []
  | cons {p : Pattern} {z : List Nat} {pts : List Pattern} {ps : List (List Nat)} (h : PPt X p [z]) (r : PPs X pts ps) : PPs X (p :: pts) (z :: ps)
theorem pp_first : ∀ {pts : List Pattern} {ps : List (List Nat)}, PPs X pts ps → ∀ (pins : List (Addr × Obj)) (s : Shared) (σ : L2.St) (H : Hp) (v : V) (x : U) (u : Value) (F : Addr → Prop), Inv X pins σ H s → RelV v u → VRel X.K F H v x → eqable x →
    wpAny (model X.prog X.w) X.A (matchFirst pts X.env u) (fun r s' => Inv X pins σ H s' ∧ r = if ps.any (fun p => ueq x (.str p)) then some [] else none) X.xe s := by
  intro pts ps h
  induction h with
  | nil => intro pins s σ H v x u F I rv rx hx; exact wpAny_matchFirst_nil ⟨I, rfl⟩
  | @cons p z pts ps hp hr ih =>
    intro pins s σ H v x u F I rv rx hx
    refine wpAny_matchFirst_cons (thn (hp pins s σ H v x u F I rv rx hx) fun r s1 ⟨I1, e⟩ => ?_)
    rw [List.any_cons, List.any_nil, Bool.or_false] at e
    rw [List.any_cons]
    cases hq : ueq x (.str z) with
    | true => rw [hq] at e; subst e; exact ⟨I1, rfl⟩
    | false => rw [hq] at e; subst e; exact ih pins s1 σ H v x u F I1 rv rx hx
theorem pp_or {pts : List Pattern} {ps : List (List Nat)} (h : PPs X pts ps) (hn : namesOfAll (pts.take 1) = []) {p2 : Pos} : PPt X (.MatchOr pts p2) ps := by
  intro pins s σ H v x u F I rv rx hx
  refine wpAny_matchPattern_Or (thn (pp_first h pins s σ H v x u F I rv rx hx) fun r s1 ⟨I1, e⟩ => ?_)
  subst e
  rw [hn]
  by_cases hq : (ps.any fun p => ueq x (.str p)) = true
  · rw [if_pos hq]; exact ⟨I1, rfl⟩
  · rw [if_neg hq]; exact ⟨I1, rfl⟩
theorem k_nil : PK X cls [] fun _ ρ S D => D.nx ρ S := ⟨fun pins s σ H D v x u first F S ρ R I rv rx sr er hw l => wpAny_matchCases_nil ⟨σ, H, I, l.nx _ _ hw F H σ .refl sr er⟩⟩
theorem k_cons {p : Pattern} {ps : List (List Nat)} {cases : List MatchCase} {w' : U → WC} (hp : PPt X p ps) (hb : PSs X sts (tC' X.K cls w1)) (hr : PK X cls cases w') :
    PK X cls (⟨p, none, sts⟩ :: cases) fun u ρ S D => eqable u ∧ if ps.any (fun p => ueq u (.str p)) then w1 ρ S D else w' u ρ S D := by
  refine ⟨fun pins s σ H D v x u first F S ρ R I rv rx sr er ⟨hx, hw⟩ l => wpAny_matchCases_cons (thn (hp pins s σ H v x u F I rv rx hx) fun r s1 ⟨I1, e⟩ => ?_)⟩
  subst e
  by_cases hq : (ps.any fun p => ueq x (.str p)) = true
  · rw [if_pos hq] at hw ⊢
    exact wpAny_assignInOrder_none (hb.run pins s1 σ H D I1 ⟨F, S, ρ, R, sr, er, hw, l⟩)
  · rw [if_neg hq] at hw ⊢
    exact hr.run pins s1 σ H D v x u false F S ρ R I1 rv rx sr er hw l
theorem k_dflt {p2 : Pos} {cases : List MatchCase} (hb : PSs X sts (tC' X.K cls w1)) : PK X cls (⟨.MatchAs none none p2, none, sts⟩ :: cases) fun _ ρ S D => w1 ρ S D := by
  refine ⟨fun pins s σ H D v x u first F S ρ R I rv rx sr er hw l => wpAny_matchCases_cons (wpAny_matchPattern_Capture ?_)⟩
  exact wpAny_assignInOrder_none (hb.run pins s σ H D I ⟨F, S, ρ, R, sr, er, hw, l⟩)
theorem c_mat {cases : List MatchCase} {w' : U → WC} (he : PE X e (tE X.K cls we)) (hk : PK X cls cases w') : PS X (.Match e cases pos) (tC' X.K cls fun ρ S D => we ρ S fun u S1 => w' u ρ S1 D) := by
  refine ⟨fun pins s σ H D I ⟨F, S, ρ, R, sr, er, hw, l⟩ => wpAny_Match (thn (he.run pins s σ H (fun v H' => ∃ F' S' x, SR X.K cls F' H' S' ∧ Ext F H S F' H' S' ∧ VRel X.K F' H' v x ∧ w' x ρ S' R) I ⟨F, S, ρ, _, sr, er, hw, fun u S1 h1 F1 H1 v e1 s1 r1 => ⟨F1, S1, u, s1, e1, r1, h1⟩⟩) fun u s1 ⟨v, H1, I1, rv, F1, S1, x, s1', e1, r1, h1⟩ => ?_)⟩
  exact hk.run pins s1 σ H1 D v x u true F1 S1 ρ R I1 rv r1 s1' (er.ext (e1.f sr)) h1 (l.step e1)
end
end Mm
/-! MmX: exceptions -/
namespace Mm
open PySem PySem.Spec PyProof.Rows L2
section
variable {X : Cx} {a D : Addr} {dv : Option Addr} {oe : Obj} {pn : List (Addr × Obj)}
/-- isinstance(e, c), e the exception that the suite holds -/
def rIsX (K : PySem.W.Frag) (D a : Addr) (dv : Option Addr) : List V → Hp → VK → Prop := fun xs H Q => ∃ (c : V) (cv : Value) (b : Bool), xs = [.ref a, c] ∧ (∀ u, RelV c u → u = cv) ∧ PySem.W.kitOne K (.ref D) cv = some b ∧ (∀ d, dv = some d → ∃ fs : List (Str × V), H d = some (.xd fs)) ∧ Q (.bl b) H
theorem call_isX (C : ExcC X.K D) (hz : Zc (.ref D) dv oe) (hf : ∃ vs, oe.data = .fields vs) : CallR (X.suite a ((a, oe) :: pn)) (.builtin "isinstance") (rIsX X.K D a dv) := by
  intro pins s σ H xs us Q I r hh
  obtain ⟨c, cv, b, rfl, hcv, e, hd, q⟩ := hh
  cases r with
  | cons rx rr =>
    cases rr with
    | cons rt rr =>
      cases rr
      cases rx
      cases hcv _ rt
      obtain ⟨hget, _⟩ := I.pin (a, oe) (List.mem_append.mpr (.inl List.mem_cons_self))
      obtain ⟨vs, hv⟩ := hf
      have hcl : (PySem.W.clsIn X.K D).isSome = true := by
        obtain ⟨cd, hc, _⟩ := PySem.W.any_some C.hd
        rw [hc]; rfl
      cases dv with
      | none =>
        have J : PySem.W.InstAt s.heap a oe D none := ⟨hget, hz.1, by unfold PySem.W.notCls; rw [hv] <;> rfl, by rw [hz.2]; trivial⟩
        exact PySem.W.kia_one (PySem.W.kitx_exc hcl C.hg C.hk C.hs C.ha C.hn C.ht C.hm) I.kIn J e (fun z => nomatch z) fun tk => ⟨.bl b, H, I.kept (t' := tk) fun _ _ z => z, rfl, q⟩
      | some d =>
        obtain ⟨fs, hd⟩ := hd d rfl
        obtain ⟨mA, hns, _⟩ : ObjOk X.prog X.w H s.heap d (.xd fs) := I.hok d _ hd
        obtain ⟨od, ho, _⟩ := lookIn_ns hns
        have J : PySem.W.InstAt s.heap a oe D (some od) := ⟨hget, hz.1, by unfold PySem.W.notCls; rw [hv] <;> rfl, by rw [hz.2]; exact ho⟩
        exact PySem.W.kia_one (PySem.W.kitx_exc hcl C.hg C.hk C.hs C.ha C.hn C.ht C.hm) I.kIn J e (fun z => nomatch z) fun tk => ⟨.bl b, H, I.kept (t' := tk) fun _ _ z => z, rfl, q⟩
end
/-! ### the suite's expressions: the slot io holds the exception at a -/
/-- what stands at the suite's beginning -/
structure Sui (X : Cx) (cls : Anc) (x : Xn) (a : Addr) (dv : Option Addr) (D : Addr) (oe : Obj) : Prop where
  xa : XAt X.K cls.F cls.H cls.S x dv
  zc : Zc (.ref D) dv oe
  df : ∃ vs, oe.data = .fields vs
mutual
theorem hev_mono {G : GV} {x : Xn} {ρ : Env} : ∀ (h : HE) {P Q : U → Prop}, (∀ u, P u → Q u) → hev G x ρ h P → hev G x ρ h Q
  | .lit u, P, Q, l, h => by simp only [hev] at h ⊢; exact ⟨h.1, l _ h.2⟩
  | .fx f, P, Q, l, h => by simp only [hev] at h ⊢; obtain ⟨u, h1, h2⟩ := h; exact ⟨u, h1, l _ h2⟩
  | .is t, P, Q, l, h => by simp only [hev] at h ⊢; obtain ⟨u, h1, h2⟩ := h; exact ⟨u, h1, l _ h2⟩
  | .nt a, P, Q, l, h => by
    simp only [hev] at h ⊢
    refine hev_mono a (fun u hu => ?_) h
    cases u <;> first | exact hu.elim | exact l _ hu
  | .and a b, P, Q, l, h => by
    simp only [hev] at h ⊢
    refine hev_mono a (fun u hu => ?_) h
    cases u <;> first | exact hu.elim | skip
    next c => cases c with
      | true => exact hev_mono b l hu
      | false => exact l _ hu
  | .var j, P, Q, l, h => by simp only [hev] at h ⊢; obtain ⟨u, h1, h2⟩ := h; exact ⟨u, h1, l _ h2⟩
  | .lst es, P, Q, l, h => by
    simp only [hev] at h ⊢
    exact hevs_mono es (fun us hu => ⟨hu.1, l _ hu.2⟩) h
  | .add a b, P, Q, l, h => by
    simp only [hev] at h ⊢
    refine hev_mono a (fun u hu => hev_mono b (fun v hv => ?_) hu) h
    cases u <;> first | exact hv.elim | skip
    cases v <;> first | exact hv.elim | skip
    exact ⟨hv.1, l _ hv.2⟩
  | .repr a, P, Q, l, h => by
    simp only [hev] at h ⊢
    exact hev_mono a (fun u hu => ⟨hu.1, hu.2.1, l _ hu.2.2⟩) h
theorem hevs_mono {G : GV} {x : Xn} {ρ : Env} : ∀ (es : HEs) {P Q : List U → Prop}, (∀ u, P u → Q u) → hevs G x ρ es P → hevs G x ρ es Q
  | .nil, P, Q, l, h => by simp only [hevs] at h ⊢; exact l _ h
  | .cons e es, P, Q, l, h => by
    simp only [hevs] at h ⊢
    exact hev_mono e (fun u hu => hevs_mono es (fun us hus => l _ hus) hu) h
end
def slotA (io : Option Nat) (a : Addr) (ρ : Env) : Prop := ∀ i, io = some i → ρ[i]? = some (some (.ref a))
abbrev wHE (G : GV) (x : Xn) (io : Option Nat) (a : Addr) (h : HE) : Env → Sto → Post → Prop := fun ρ S R => slotA io a ρ ∧ hev G x (clr io ρ) h fun u => R u S
abbrev wHEs (G : GV) (x : Xn) (io : Option Nat) (a : Addr) (es : HEs) : Env → Sto → (List U → Sto → Prop) → Prop := fun ρ S R => slotA io a ρ ∧ hevs G x (clr io ρ) es fun us => R us S
theorem clr_get {io : Option Nat} {ρ : Env} {j : Nat} {u : U} (h : (clr io ρ)[j]? = some (some u)) : ρ[j]? = some (some u) := by
  cases io with
  | none => exact h
  | some i =>
    simp only [clr] at h
    by_cases hj : i = j
    · subst hj
      by_cases hi : i < ρ.length
      · rw [List.getElem?_set_self hi] at h; cases h
      · rw [List.getElem?_eq_none (by simpa using hi)] at h; cases h
    · rwa [List.getElem?_set_ne hj] at h
section
variable {X : Cx} {cls : Anc} {x : Xn} {io : Option Nat} {i : Nat} {a D : Addr} {dv : Option Addr} {oe : Obj} {pn : List (Addr × Obj)} {G : GV} {e e' : Expr} {pos p : Pos}
theorem Sui.now (su : Sui X cls x a dv D oe) {F : Addr → Prop} {H : Hp} {S : Sto} (an : SR X.K ⟨cls.cls, cls.F, cls.H, cls.S⟩ cls.F cls.H cls.S) (sr : SR X.K cls F H S) : XAt X.K F H S x dv := by
  have xa := su.xa
  cases dv with
  | none => exact xa
  | some d =>
    obtain ⟨vs, h1, h2, h3, h4⟩ := xa
    obtain ⟨k1, k2, k3⟩ := sr.anc.keep d _ h1 h3
    exact ⟨vs, k1, h2.ext (sr.anc.f an), k2, fun z => h4 (k3 z)⟩
theorem he_lit {u : U} {v : V} (h : PE X e (tC v)) (r : ∀ F H, VRel X.K F H v u) : PE X e (tE X.K cls (wHE G x io a (.lit u))) :=
  (s_lit h r).imp fun σ H Q ⟨F, S, ρ, R, sr, er, hw, l⟩ => ⟨F, S, ρ, R, sr, er, (by simpa only [hev] using hw.2.2), l⟩
theorem he_var {j : Nat} (h : PE X e (tVar j)) : PE X e (tE X.K cls (wHE G x io a (.var j))) :=
  (s_var h).imp fun σ H Q ⟨F, S, ρ, R, sr, er, hw, l⟩ => ⟨F, S, ρ, R, sr, er, (by
    have h2 := hw.2
    simp only [hev] at h2
    obtain ⟨u, h3, h4⟩ := h2
    exact ⟨u, clr_get h3, h4⟩), l⟩
theorem he_fx {f : Str} (su : Sui X cls x a dv D oe) (an : SR X.K ⟨cls.cls, cls.F, cls.H, cls.S⟩ cls.F cls.H cls.S) (T : XfC X.K D) (hno : PySem.W.findIn X.K (.ref D) f = some none) (h : PE (X.suite a ((a, oe) :: pn)) e (tVar i)) (hb : attributeBase e f X.env (eval e X.env) = eval e X.env) :
    PE (X.suite a ((a, oe) :: pn)) (.Attribute e f pos) (tE X.K cls (wHE G x (some i) a (.fx f))) := by
  refine (pe_xf T hno su.zc su.df h hb).imp fun σ H Q ⟨F, S, ρ, R, sr, er, hw, l⟩ => ?_
  obtain ⟨hi, h2⟩ := hw
  simp only [hev] at h2
  obtain ⟨u, h1, h2⟩ := h2
  obtain ⟨v, hv, rv⟩ := er.at_ i _ (hi i rfl)
  cases rv
  have xa := su.now an sr
  cases dv with
  | none =>
    have xa : x.fs = [] := xa
    rw [xa] at h1; cases h1
  | some d =>
    obtain ⟨vs, k1, k2, k3, k4⟩ := xa
    obtain ⟨w, hw, rw'⟩ := k2.lookup.1 u h1
    exact ⟨_, hv, rfl, rfl, d, vs, w, rfl, k1, hw, l.now sr h2 rw'⟩
theorem he_is {t : Str} {c : V} {cv : Value} {q : Pos} (su : Sui X cls x a dv D oe) (an : SR X.K ⟨cls.cls, cls.F, cls.H, cls.S⟩ cls.F cls.H cls.S) (C : ExcC X.K D) (hg : Gl X "isinstance") (hm : X.mg "isinstance" = none) (h : PE (X.suite a ((a, oe) :: pn)) e (tVar i)) (hc : PE (X.suite a ((a, oe) :: pn)) e' (tC c)) (hcv : ∀ u, RelV c u → u = cv)
    (hk : ∀ b, G.eis x.c t = some b → PySem.W.kitOne X.K (.ref D) cv = some b)
    (hs : starEach [e, e'] X.env = (false, eval e X.env) :: starEach [e'] X.env) (hs2 : starEach [e'] X.env = (false, eval e' X.env) :: starEach [] X.env) (hpl : (backTo pos (starEach [e'] X.env)).any (·.1) = false) :
    PE (X.suite a ((a, oe) :: pn)) (.Call (.Name "isinstance" p) [e, e'] [] pos) (tE X.K cls (wHE G x (some i) a (.is t))) := by
  have key := pe_callB (p := p) (pos := pos) (call_isX (X := X) (pn := pn) C su.zc su.df) hg hm (by decide +kernel) (pa_cons h (pa_cons hc pa_nil hs2) hs) (by decide) (by decide) hs hpl
  refine key.imp fun σ H Q ⟨F, S, ρ, R, sr, er, hw, l⟩ => ?_
  obtain ⟨hi, h2⟩ := hw
  simp only [hev] at h2
  obtain ⟨b, hb, h2⟩ := h2
  obtain ⟨v, hv, rv⟩ := er.at_ i _ (hi i rfl)
  cases rv
  have xa := su.now an sr
  refine ⟨_, hv, c, cv, b, rfl, hcv, hk b hb, fun d e => ?_, l.now sr h2 (.bl b)⟩
  subst e
  obtain ⟨vs, k1, _⟩ := xa
  exact ⟨vs, k1⟩
theorem he_nt {h : HE} (ha : PE X e (tE X.K cls (wHE G x io a h))) : PE X (.UnaryOp .Not e pos) (tE X.K cls (wHE G x io a (.nt h))) :=
  (s_not ha).imp fun σ H Q ⟨F, S, ρ, R, sr, er, hw, l⟩ => ⟨F, S, ρ, R, sr, er, ⟨hw.1, by have h2 := hw.2; simp only [hev] at h2; exact hev_mono h (fun u hu => by cases u <;> exact hu) h2⟩, l⟩
theorem he_and {h h' : HE} {b : Expr} {rest : List Expr} (ha : PE X e (tE X.K cls (wHE G x io a h))) (hb : PE X (.BoolOp .And (b :: rest) pos) (tE X.K cls (wHE G x io a h'))) :
    PE X (.BoolOp .And (e :: b :: rest) pos) (tE X.K cls (wHE G x io a (.and h h'))) :=
  (s_and ha hb).imp fun σ H Q ⟨F, S, ρ, R, sr, er, hw, l⟩ => ⟨F, S, ρ, R, sr, er, ⟨hw.1, by
    have h2 := hw.2
    simp only [hev] at h2
    refine hev_mono h (fun u hu => ?_) h2
    cases u <;> first | exact hu | skip
    next c => cases c with
      | true => exact ⟨hw.1, hu⟩
      | false => exact hu⟩, l⟩
theorem he_add {h h' : HE} {b : Expr} (ha : PE X e (tE X.K cls (wHE G x io a h))) (hb : PE X b (tE X.K cls (wHE G x io a h'))) : PE X (.BinOp e .Add b pos) (tE X.K cls (wHE G x io a (.add h h'))) :=
  (s_bin (op := .Add) (bop_ok .add false) ha hb).imp fun σ H Q ⟨F, S, ρ, R, sr, er, hw, l⟩ => ⟨F, S, ρ, R, sr, er, ⟨hw.1, by
    have h2 := hw.2
    simp only [hev] at h2
    refine hev_mono h (fun u hu => ⟨hw.1, hev_mono h' (fun v hv => ?_) hu⟩) h2
    cases u <;> first | exact hv.elim | skip
    cases v <;> first | exact hv.elim | skip
    exact ⟨_, _, rfl, rfl, hv.1, hv.2⟩⟩, l⟩
theorem he_repr {h : HE} {p : Pos} (hgd : G.gd = true → X.A.guards = some []) (hu : X.A.units + 200 < cLine) (hg : Gl X "repr") (hm : X.mg "repr" = none) (ha : PE X e (tE X.K cls (wHE G x io a h))) (hs : starEach [e] X.env = [(false, eval e X.env)]) : PE X (.Call (.Name "repr" p) [e] [] pos) (tE X.K cls (wHE G x io a (.repr h))) :=
  (s_repr hgd hu hg hm ha hs).imp fun σ H Q ⟨F, S, ρ, R, sr, er, hw, l⟩ => ⟨F, S, ρ, R, sr, er, ⟨hw.1, by have h2 := hw.2; simp only [hev] at h2; exact h2⟩, l⟩
theorem he_nil : PA X [] (tA X.K cls (wHEs G x io a .nil)) := s_nil.imp fun σ H Q ⟨F, S, ρ, R, sr, er, hw, l⟩ => ⟨F, S, ρ, R, sr, er, (by have h2 := hw.2; simp only [hevs] at h2; exact h2), l⟩
theorem he_cons {h : HE} {hs : HEs} {es : List Expr} (ha : PE X e (tE X.K cls (wHE G x io a h))) (hr : PA X es (tA X.K cls (wHEs G x io a hs))) (hst : starEach (e :: es) X.env = (false, eval e X.env) :: starEach es X.env) : PA X (e :: es) (tA X.K cls (wHEs G x io a (.cons h hs))) :=
  (s_cons ha hr hst).imp fun σ H Q ⟨F, S, ρ, R, sr, er, hw, l⟩ => ⟨F, S, ρ, R, sr, er, ⟨hw.1, by have h2 := hw.2; simp only [hevs] at h2; exact hev_mono h (fun u hu => ⟨hw.1, hu⟩) h2⟩, l⟩
theorem he_lst {hs : HEs} {es : List Expr} (ha : PA X es (tA X.K cls (wHEs G x io a hs))) : PE X (.List es pos) (tE X.K cls (wHE G x io a (.lst hs))) :=
  (s_lst (m := false) ha).imp fun σ H Q ⟨F, S, ρ, R, sr, er, hw, l⟩ => ⟨F, S, ρ, R, sr, er, ⟨hw.1, by have h2 := hw.2; simp only [hev] at h2; exact h2⟩, l⟩
end
end Mm
/-! MmT: try with several except clauses, each with a name or without -/
namespace Mm
open PySem PySem.Spec PyProof.Rows L2
/-- a clause: its class, its name's slot, what its suite asks -/
structure Mc where
  c : Value
  i : Option Nat
  ts : Addr → Value → Option Addr → TS
def inS (i : Option Nat) (a : Addr) (σ : L2.St) : L2.St := match i with
  | some i => σ.set i (some (.ref a))
  | none => σ
def outS (i : Option Nat) (σ : L2.St) : L2.St := match i with
  | some i => σ.set i none
  | none => σ
def outD (i : Option Nat) (D : Ends) : Ends := { nx := fun σ H => D.nx (outS i σ) H, rt := D.rt, bk := fun σ H => D.bk (outS i σ) H, ct := fun σ H => D.ct (outS i σ) H }
def wMs (K : PySem.W.Frag) (Wout : WX) (D : Ends) : List Mc → WX
  | [] => Wout
  | m :: r => fun cl d σ H => ∃ b, PySem.W.exmOne K cl m.c = some b ∧ (b = true → ∀ a, H a = none → m.ts a cl d (outD m.i D) (inS m.i a σ) H) ∧ (b = false → wMs K Wout D r cl d σ H)
inductive HsOk (X : Cx) : List ExceptHandler → List Mc → Prop
  | nil : HsOk X [] []
  | no {x : Str} {m : Mc} {b₀ : Stmt} {suite : List Stmt} {np ph : Pos} {hds : List ExceptHandler} {l : List Mc} (hi : m.i = none) (hc : Names X x m.c)
      (hsu : ∀ (a : Addr) (ob : Obj) (cl : Value) (d : Option Addr) (pn : List (Addr × Obj)), Zc cl d ob → (∃ vs, ob.data = .fields vs) → PSs (X.suite a ((a, ob) :: pn)) (b₀ :: suite) (m.ts a cl d)) (r : HsOk X hds l) :
      HsOk X (.ExceptHandler (some (.Name x np)) none (b₀ :: suite) ph :: hds) (m :: l)
  | nm {x n : Str} {m : Mc} {i : Nat} {b₀ : Stmt} {suite : List Stmt} {np ph : Pos} {hds : List ExceptHandler} {l : List Mc} (hi : m.i = some i) (hN : X.N[i]? = some n) (hl : X.env.kindOf n = some .local) (hc : Names X x m.c)
      (hsu : ∀ (a : Addr) (ob : Obj) (cl : Value) (d : Option Addr) (pn : List (Addr × Obj)), Zc cl d ob → (∃ vs, ob.data = .fields vs) → PSs (X.suite a ((a, ob) :: pn)) (b₀ :: suite) (m.ts a cl d)) (r : HsOk X hds l) :
      HsOk X (.ExceptHandler (some (.Name x np)) (some n) (b₀ :: suite) ph :: hds) (m :: l)
section
variable {X : Cx} {body : List Stmt} {h₀ : ExceptHandler} {hds : List ExceptHandler} {l : List Mc} {pos : Pos} {tb : WX → TS} {Wout : WX}
/-- the class of a clause is read -/
theorem test_ok {pins : List (Addr × Obj)} {σ : L2.St} {H : Hp} {a : Addr} {z : Shared} {x : Str} {c : Value} {np : Pos} {pn : List (Addr × Obj)} (I : Inv (X.suite a pn) pins σ H z) (hc : Names X x c) {Q : Value → Shared → Prop} {E : Value → Shared → Prop} (q : Q c z) :
    wpAny (model X.prog X.w) (X.A.mark (some (.ref a))) (eval (.Name x np) X.env) Q E z := by
  obtain ⟨hg, hd, hm | ⟨hm, hv, hne⟩⟩ := hc
  · exact ld_glob (X := X.suite a pn) I hg hm q hd
  · exact ld_blt (X := X.suite a pn) I hg hm hv q hne hd
theorem ps_try_ms (hs : X.stack = X.env :: X.outer) (hf : X.env.frame = some X.env.locals) (hN : X.N.Nodup) (tk : Takes X Wout)
    (hb : ∀ (W : WX) (pn : List (Addr × Obj)) (xe : Value → Shared → Prop), Takes (X.tr pn xe) W → PassesOwn (model X.prog X.w) X.A X.env xe → PSs (X.tr pn xe) body (tb W))
    (hh : HsOk X (h₀ :: hds) l) : PS X (.Try body (h₀ :: hds) [] [] pos) (fun D σ H => tb (wMs X.K Wout D l) D σ H) := by
  refine ⟨fun pins s σ H D I hq => ?_⟩
  have ok := I.ok
  have fr : X.A.frames = some (X.env :: X.outer) := by rw [ok.frames, hs]
  refine wpAny_Try_except ?_
  refine wpAny_mono ((hb (wMs X.K Wout D l) (X.pn ++ pins) (fun e y => wpAny (model X.prog X.w) X.A (noteFrame e X.env) (fun _ y => wpAny (model X.prog X.w) X.A (setFlight e none) (fun _ y =>
    wpAny (model X.prog X.w) X.A (handleBy e X.env (h₀ :: hds)) (SP X pins D) X.xe y) X.xe y) X.xe y) (fun u z xx => ?_) PassesOwn.looking).run [] s σ H D (I.toTry _) hq) (fun f z hz => ?_) (fun _ _ he => he)
  · obtain ⟨a, B, sI, pn2, τ, G, cl, d, rfl, J0, nb, up, sky, na, os, ag, wish⟩ := xx
    have J : Inv X pins τ G sI := J0.ofTry ok
    rw [show (X.tr (X.pn ++ pins) _).stack = X.env :: X.outer from hs] at sky
    show wpAny (model X.prog X.w) X.A (noteFrame (.ref a) X.env) _ _ _
    refine Sky.land Zc.steady fr hf sky fun g3 fly ups => ?_
    have J3 : Inv X pins τ G { z with heap := g3 } := J.landed nb fly.1 (up.trans ups) os ag
    obtain ⟨o3, w3, ho3, hz3, hd3⟩ := fly.there
    have nfr : a ∉ frs (X.env :: X.outer) := fun hm => by
      obtain ⟨_, o', e', hnf⟩ := fly.2.2.1.mem hm
      rw [ho3] at e'
      cases e'
      exact hnf _ hd3
    have nL : a ≠ X.env.locals := fun e => nfr (List.mem_filterMap.mpr ⟨X.env, List.mem_cons_self, by rw [hf, e]⟩)
    have nF : a ∉ X.fs := fun hm => by
      obtain ⟨e, he, q⟩ := List.mem_filterMap.mp hm
      exact nfr (List.mem_filterMap.mpr ⟨e, List.mem_cons_of_mem _ he, q⟩)
    have S3 := J3.suite ho3 hd3 na nL nF
    -- a suite's run, between the binding and the unbinding of its name
    have goes : ∀ {ks : List ExceptHandler} {ms : List Mc}, HsOk X ks ms → wMs X.K Wout D ms cl d τ G → wpAny (model X.prog X.w) X.A (handleBy (.ref a) X.env ks) (SP X pins D) X.xe { z with heap := g3 } := by
      intro ks ms hk
      induction hk with
      | nil =>
        intro wi
        refine wpAny_handleBy_nil ?_
        obtain ⟨_, _, _, oe, vs, T, oT, us, he, hz, hd, h1, hr⟩ := id fly
        unfold PySem.passOn
        refine wpAny_bind (wpAny_field he hd h1 ?_)
        rw [if_neg (show ¬ ((Value.ref T == Value.none) = true) from by simp)]
        have last : wpAny (model X.prog X.w) X.A (setFlight (.ref a) X.env.frame) (fun _ y => wpAny (model X.prog X.w) X.A (throw (.ref a) : Sem Flow) (SP X pins D) X.xe y) X.xe { z with heap := g3 } := by
          rw [hf]
          refine HandSPX.setFlight_upZ fly fun g4 held ups4 => wpAny_throw (tk _ _ ?_)
          exact ⟨a, B, sI, pins, τ, G, cl, d, rfl, J, nb, (up.trans ups).trans ups4, .inr (.inr (by rw [hs]; exact held)), na, os, ag, wi⟩
        first
          | exact wpAny_bind (wpAny_pure (wpAny_bind last))
          | exact wpAny_bind last
      | @no x m b₀ suite np ph rest ls hi hc hsu r ih =>
        intro wi
        obtain ⟨b, hb1, yes, no⟩ := wi
        refine wpAny_handleBy_cons (codeAny_handlers_test ?_) (by intro q; cases q)
        have look : PySem.W.Looks (model X.prog X.w) g3 (typeOf (.ref a)) cl := fun A Q E y k q => wpAny_typeOf_ref (k _ _ ho3) (by rw [hz3.1]; exact q)
        refine test_ok S3 hc ((PySem.W.exm_one (M := model X.prog X.w) J3.kIn look hb1).here ?_)
        cases b with
        | false => exact ih (no rfl)
        | true =>
          refine codeAny_handlers_suite ?_
          refine HandSPX.lands_againZ fly fun g4 fly4 ups4 => ?_
          obtain ⟨o4, w4, ho4, hz4, hd4⟩ := fly4.there
          have S4 := (J.landed (s' := { z with heap := g4 }) nb fly4.1 ((up.trans ups).trans ups4) os ag).suite ho4 hd4 na nL nF
          have y1 := yes rfl a na
          rw [hi] at y1
          refine wpAny_mono ((hsu a o4 cl d (X.pn ++ pins) hz4 ⟨_, hd4⟩).run [] _ _ G _ S4 y1) (fun f y hy => ?_) (fun _ _ q => q.elim)
          match f, hy with
          | .next, ⟨τ6, G6, S6, q6⟩ => exact ⟨_, _, S6.unsuite ok, q6⟩
          | .brk, ⟨τ6, G6, S6, q6⟩ => exact ⟨_, _, S6.unsuite ok, q6⟩
          | .cont, ⟨τ6, G6, S6, q6⟩ => exact ⟨_, _, S6.unsuite ok, q6⟩
          | .ret u, ⟨v6, τ6, G6, S6, r6, q6⟩ => exact ⟨_, _, _, S6.unsuite ok, r6, q6⟩
      | @nm x n m i b₀ suite np ph rest ls hi hNi hl hc hsu r ih =>
        intro wi
        obtain ⟨b, hb1, yes, no⟩ := wi
        refine wpAny_handleBy_cons (codeAny_handlers_test ?_) (by intro q; cases q)
        have look : PySem.W.Looks (model X.prog X.w) g3 (typeOf (.ref a)) cl := fun A Q E y k q => wpAny_typeOf_ref (k _ _ ho3) (by rw [hz3.1]; exact q)
        refine test_ok S3 hc ((PySem.W.exm_one (M := model X.prog X.w) J3.kIn look hb1).here ?_)
        cases b with
        | false => exact ih (no rfl)
        | true =>
          refine codeAny_handlers_suite_as ?_
          refine HandSPX.lands_againZ fly fun g4 fly4 ups4 => ?_
          obtain ⟨o4, w4, ho4, hz4, hd4⟩ := fly4.there
          have S4 := (J.landed (s' := { z with heap := g4 }) nb fly4.1 ((up.trans ups).trans ups4) os ag).suite ho4 hd4 na nL nF
          have y1 := yes rfl a na
          rw [hi] at y1
          refine store_ok (X := X.suite a ((a, o4) :: (X.pn ++ pins))) (v := .ref a) S4 hN hNi (.inl hl) rfl (fun s5 S5 => ?_) (.inr hl)
          refine wpAny_mono ((hsu a o4 cl d (X.pn ++ pins) hz4 ⟨_, hd4⟩).run [] s5 _ G _ S5 y1) (fun f y hy => ?_) (fun _ _ q => q.elim)
          have done : ∀ {τ6 : L2.St} {G6 : Hp} {Q : Shared → Prop}, Inv (X.suite a ((a, o4) :: (X.pn ++ pins))) [] τ6 G6 y → (∀ s7, Inv X pins (τ6.set i none) G6 s7 → Q s7) →
              wpAny (model X.prog X.w) X.A (do bindName X.env n .none; unbindBehindTheSuite X.env n ph) (fun _ s7 => Q s7) X.xe y := fun S6 hq => gone_ok (S6.unsuite ok) hN hNi hl hq
          match f, hy with
          | .next, ⟨τ6, G6, S6, q6⟩ => exact done S6 fun s7 J7 => ⟨_, _, J7, q6⟩
          | .brk, ⟨τ6, G6, S6, q6⟩ => exact done S6 fun s7 J7 => ⟨_, _, J7, q6⟩
          | .cont, ⟨τ6, G6, S6, q6⟩ => exact done S6 fun s7 J7 => ⟨_, _, J7, q6⟩
          | .ret u, ⟨v6, τ6, G6, S6, r6, q6⟩ => exact done S6 fun s7 J7 => ⟨_, _, _, J7, r6, q6⟩
    exact goes hh wish
  · match f, hz with
    | .next, ⟨τ, G, J, q⟩ => exact wpAny_execs_nil ⟨τ, G, J.ofTry ok, q⟩
    | .brk, ⟨τ, G, J, q⟩ => exact ⟨τ, G, J.ofTry ok, q⟩
    | .cont, ⟨τ, G, J, q⟩ => exact ⟨τ, G, J.ofTry ok, q⟩
    | .ret u, ⟨v, τ, G, J, r, q⟩ => exact ⟨v, τ, G, J.ofTry ok, r, q⟩
end
end Mm
/-! MmZ: raise; try with its clauses over deep values -/
namespace Mm
open PySem PySem.Spec PyProof.Rows L2
/-! ### raise C(..) -/
/-- what an exception's __init__ promises: it stores its arguments under the names fl -/
def spXI (K : PySem.W.Frag) (C : Addr) (fl : List Str) : Sp := fun vs H Q _ => ∃ (a : Addr) (ws : List V), vs = .ref a :: ws ∧ ws.length = fl.length ∧ H a = some (exo a C none) ∧
  ∀ d, H d = none → d ≠ a → Q .non (upd (upd H d (exd d (fl.zip ws).reverse)) a (exo a C (some d)))
/-- an exception's class that may be raised -/
structure ExRow (P : Program) (w : World) (K : PySem.W.Frag) (mg : Str → Option Value) (base : Heap) (k : Nat) (C : Addr) (fl : List Str) : Prop where
  oc : OexC K C
  ex : ∃ fI fd ps, PySem.W.findIn K (.ref C) "__init__" = some (some (.ref fI)) ∧ PySem.W.typeIn K (.ref fI) = some (.type "function") ∧ FnOk P w K mg base (L2.CX P w) k fI fd ps (spXI K C fl) ∧ L2.Binds K fd ps []
theorem frel_rev {K : PySem.W.Frag} {F : Addr → Prop} {H : Hp} : ∀ {fl : List Str} {vs : List V} {us : List U}, VRels K F H vs us → FRel K F H (fl.zip vs) (fl.zip us)
  | [], _, _, _ => by rw [List.zip_nil_left, List.zip_nil_left]; exact .nil
  | f :: fl, _, _, .nil => .nil
  | f :: fl, _, _, .cons h r => .cons h (frel_rev r)
theorem FRel.app {K : PySem.W.Frag} {F : Addr → Prop} {H : Hp} {vs vs' : List (Str × V)} {us us' : List (Str × U)} (h : FRel K F H vs us) (h' : FRel K F H vs' us') : FRel K F H (vs ++ vs') (us ++ us') := by
  induction h with
  | nil => exact h'
  | cons h _ ih => exact .cons h ih
theorem FRel.rev {K : PySem.W.Frag} {F : Addr → Prop} {H : Hp} {vs : List (Str × V)} {us : List (Str × U)} (h : FRel K F H vs us) : FRel K F H vs.reverse us.reverse := by
  induction h with
  | nil => exact .nil
  | cons h _ ih => rw [List.reverse_cons, List.reverse_cons]; exact ih.app (.cons h .nil)
/-- C() leaves an exception without a dict -/
def Mk0 (P : Program) (w : World) (K : PySem.W.Frag) (mg : Str → Option Value) (base : Heap) (k : Nat) (C : Addr) : Prop := ∀ (X : Cx) (nm : Str) (p pos : Pos), X.prog = P → X.w = w → X.K = K → X.mg = mg → X.base = base → Room (k + 1) X.A → Passes (L2.CX X.prog X.w) X E0 → Gl X nm → X.mg nm = some (.ref C) → (nm == ("__debug__" : Str)) = false →
  PMk X (.Call (.Name nm p) [] [] pos) (fun _ H Q => Q (.ref C) none H)
section
variable {X : Cx} {cls : Anc} {ecl : List Addr} {RX : RXn} {W : WX} {e : Expr} {es : List Expr} {wr : Env → Sto → (List U → Sto → Prop) → Prop} {nm : Str} {p pos pos2 : Pos} {C : Addr} {c k : Nat} {fl : List Str}
theorem c_rai (hc : X.calm = true) (tk : Takes X W) (lx : LX X.K cls ecl RX W) (hC : ecl[c]? = some C) (r : ExRow X.prog X.w X.K X.mg X.base k C fl) (hr : Room (k + 1) X.A) (hp : Passes (L2.CX X.prog X.w) X (fun _ _ _ => False)) (hg : Gl X nm) (hm : X.mg nm = some (.ref C)) (hfl : fl.length ≤ 900) (ha : PA X (e :: es) (tA X.K cls wr))
    (hdb : (nm == ("__debug__" : Str)) = false) (he : starEach (e :: es) X.env = (false, eval e X.env) :: starEach es X.env) (hpl : (backTo pos (starEach es X.env)).any (·.1) = false) :
    PS X (.Raise (some (.Call (.Name nm p) (e :: es) [] pos)) none pos2) (tC' X.K cls fun ρ S D => wr ρ S fun us S1 => us.length = fl.length ∧ RX ⟨c, (fl.zip us).reverse⟩ ρ S1) := by
  obtain ⟨fI, fd, ps, h1, h2, h3, h4⟩ := r.ex
  refine (ps_raise hc tk (pmk_oex r.oc h1 h2 h3 hr h4 .nil hp hg hm ha hdb he hpl)).imp fun D σ H ⟨F, S, ρ, R, sr, er, hw, l⟩ => ?_
  refine ⟨F, S, ρ, _, sr, er, hw, fun us S1 hu F1 H1 vs e1 s1 r1 => ?_⟩
  obtain ⟨hl, hx⟩ := hu
  have hlv : vs.length = fl.length := by rw [r1.length, hl]
  refine ⟨by omega, fun a ha => ⟨a, vs ++ [], rfl, by rw [List.append_nil]; exact hlv, upd_same, fun d hd hda => ⟨rfl, d, (fl.zip (vs ++ [])).reverse, upd_same, ?_, ?_, ?_⟩⟩⟩
  · rw [upd_ne hda, upd_same]
  · rw [upd_ne hda] at hd; exact hd
  · rw [upd_ne hda] at hd
    rw [List.append_nil]
    have e : upd (del (upd (upd (upd H1 a (exo a C none)) d (exd d (fl.zip vs).reverse)) a (exo a C (some d))) a) d (.xd (fl.zip vs).reverse) = upd H1 d (.xd (fl.zip vs).reverse) := by
      funext b
      by_cases hb : b = d
      · subst hb; rw [upd_same, upd_same]
      · rw [upd_ne hb, upd_ne hb]
        by_cases hb2 : b = a
        · subst hb2; rw [del_same, ha]
        · rw [del_ne hb2, upd_ne hb2, upd_ne hb, upd_ne hb2]
    rw [e]
    obtain ⟨s2, e2⟩ := hid_new (o := .xd (fl.zip vs).reverse) s1 hd
    exact lx _ ρ S1 hx F1 _ σ d C s2 (er.ext ((e1.trans e2).f sr)) ⟨_, upd_same, (frel_rev (r1.ext (e2.f s1))).rev, s1.notS hd, s1.notF hd⟩ hC
theorem c_rai0 (hc : X.calm = true) (tk : Takes X W) (lx : LX X.K cls ecl RX W) (hC : ecl[c]? = some C) (r : Mk0 X.prog X.w X.K X.mg X.base k C) (hr : Room (k + 1) X.A) (hp : Passes (L2.CX X.prog X.w) X E0) (hg : Gl X nm) (hm : X.mg nm = some (.ref C)) (hdb : (nm == ("__debug__" : Str)) = false) :
    PS X (.Raise (some (.Call (.Name nm p) [] [] pos)) none pos2) (tC' X.K cls fun ρ S D => RX ⟨c, []⟩ ρ S) :=
  (ps_raise hc tk (r X nm p pos rfl rfl rfl rfl rfl hr hp hg hm hdb)).imp fun D σ H ⟨F, S, ρ, R, sr, er, hw, l⟩ => lx _ ρ S hw F H σ none C sr er rfl hC
end
/-! ### try: .. except .. -/
/-- a suite by its word -/
def wHs (G : GV) (x : Xn) (io : Option Nat) (a : Addr) : List Hs → WC
  | [] => fun ρ S D => D.nx ρ S
  | .ret e :: _ => fun ρ S D => wHE G x io a e ρ S D.rt
  | .set j e :: r => fun ρ S D => wHE G x io a e ρ S fun u S1 => wHs G x io a r (ρ.set j (some u)) S1 D
  | .pas :: r => fun ρ S D => wHs G x io a r ρ S D
theorem slotA_set {io : Option Nat} {a : Addr} {ρ : Env} {j : Nat} {u : U} (h : slotA io a ρ) (hj : io ≠ some j) : slotA io a (ρ.set j (some u)) := fun i e => by
  have : j ≠ i := fun z => hj (by rw [e, z])
  rw [List.getElem?_set_ne this]; exact h i e
theorem clr_set {io : Option Nat} {ρ : Env} {j : Nat} {u : U} (hj : io ≠ some j) : clr io (ρ.set j (some u)) = (clr io ρ).set j (some u) := by
  cases io with
  | none => rfl
  | some i =>
    have : i ≠ j := fun z => hj (by rw [z])
    exact List.set_comm _ _ this.symm
theorem wH_wHs {G : GV} {x : Xn} {io : Option Nat} {a : Addr} {D : Out} : ∀ (h : List Hs) {ρ : Env} {S : Sto}, slotA io a ρ → wH G x io h (clr io ρ) S D → wHs G x io a h ρ S { nx := fun ρ2 S2 => D.nx (clr io ρ2) S2, rt := D.rt, bk := fun _ _ => False, ct := fun _ _ => False }
  | [], ρ, S, sa, h => h
  | .ret e :: _, ρ, S, sa, h => ⟨sa, h⟩
  | .set j e :: r, ρ, S, sa, h => by
    obtain ⟨h1, h2⟩ := h
    refine ⟨sa, hev_mono e (fun u hu => ?_) h2⟩
    exact wH_wHs r (slotA_set sa h1) (by rw [clr_set h1]; exact hu)
  | .pas :: r, ρ, S, sa, h => wH_wHs r sa h
def Mc.of (cv : Value) (i : Option Nat) (ts : Addr → Value → Option Addr → TS) : Mc := ⟨cv, i, ts⟩
section
variable {X : Cx} {cls : Anc} {ecl : List Addr} {RX : RXn} {W : WX} {G : GV} {wb : RXn → WC} {h₀ : ExceptHandler} {hds : List ExceptHandler} {body : List Stmt} {pos : Pos}
/-- what a clause's suite asks of the layer below -/
def tsOf (K : PySem.W.Frag) (cla ecl : List Addr) (G : GV) (q : Cl) : Addr → Value → Option Addr → TS := fun a clsv dv D σ H => ∃ (x : Xn) (Dc : Addr) (F : Addr → Prop) (S : Sto), clsv = .ref Dc ∧ ecl[x.c]? = some Dc ∧ XAt K F H S x dv ∧ SR K ⟨cla, F, H, S⟩ F H S ∧ tC' K ⟨cla, F, H, S⟩ (wHs G x q.i a q.h) D σ H
/-- the clauses stand for the small ones -/
inductive ClsOk (X : Cx) (cla ecl : List Addr) (G : GV) : List ExceptHandler → List Cl → List Mc → Prop
  | nil : ClsOk X cla ecl G [] [] []
  | cons {hd : ExceptHandler} {hds : List ExceptHandler} {q : Cl} {qs : List Cl} {cv : Value} {ms : List Mc} (hex : ∀ k C, ecl[k]? = some C → PySem.W.exmOne X.K (.ref C) cv = some (G.esub k q.c))
      (h1 : ∀ {ks : List ExceptHandler} {l : List Mc}, HsOk X ks l → HsOk X (hd :: ks) (⟨cv, q.i, tsOf X.K cla ecl G q⟩ :: l)) (r : ClsOk X cla ecl G hds qs ms) : ClsOk X cla ecl G (hd :: hds) (q :: qs) (⟨cv, q.i, tsOf X.K cla ecl G q⟩ :: ms)
theorem ClsOk.hs {cla : List Addr} {qs : List Cl} {ms : List Mc} (h : ClsOk X cla ecl G hds qs ms) : HsOk X hds ms := by
  induction h with
  | nil => exact .nil
  | cons _ h1 _ ih => exact h1 ih
theorem c_tryM {qs : List Cl} {ms : List Mc} (hs : X.stack = X.env :: X.outer) (hf : X.env.frame = some X.env.locals) (hN : X.N.Nodup) (tk : Takes X W) (lx : LX X.K cls ecl RX W) (hk : ClsOk X cls.cls ecl G (h₀ :: hds) qs ms)
    (hb : ∀ (RX' : RXn) (W' : WX) (cls' : Anc) (pn : List (Addr × Obj)) (xe : Value → Shared → Prop), cls'.cls = cls.cls → Takes (X.tr pn xe) W' → LX X.K cls' ecl RX' W' → PassesOwn (model X.prog X.w) X.A X.env xe → PSs (X.tr pn xe) body (tC' X.K cls' (wb RX'))) :
    PS X (.Try body (h₀ :: hds) [] [] pos) (tC' X.K cls fun ρ S D => wb (fun x ρ' S' => wHm G RX x D qs ρ' S') ρ S D) := by
  have key := ps_try_ms (X := X) (pos := pos) (tb := fun W' D σ H => ∃ (cls' : Anc) (RX' : RXn), cls'.cls = cls.cls ∧ LX X.K cls' ecl RX' W' ∧ tC' X.K cls' (wb RX') D σ H) hs hf hN tk
    (fun W' pn xe tk' po => ⟨fun pins s σ H D I ⟨cls', RX', h1, h2, h3⟩ => (hb RX' W' cls' pn xe h1 tk' h2 po).run pins s σ H D I h3⟩) hk.hs
  refine key.imp fun D σ H ⟨F, S, ρ, R, sr, er, hw, l⟩ => ?_
  refine ⟨⟨cls.cls, F, H, S⟩, _, rfl, fun x ρ' S' hx F' H' σ' d C sr' er' xa hC => ?_, F, S, ρ, R, sr.re, er, hw, ?_⟩
  · have e0 : Ext F H S F' H' S' := sr'.anc
    have go : ∀ {hds : List ExceptHandler} {qs : List Cl} {ms : List Mc}, ClsOk X cls.cls ecl G hds qs ms → wHm G RX x R qs ρ' S' → wMs X.K W D ms (.ref C) d σ' H' := by
      intro hds qs ms hk
      induction hk with
      | nil => exact fun hx => lx x ρ' S' hx F' H' σ' d C (sr.back sr') er' xa hC
      | @cons hd hds q qs cv ms hex h1 r ih =>
        intro hx
        simp only [wHm] at hx
        refine ⟨G.esub x.c q.c, hex _ _ hC, fun hb a ha => ?_, fun hb => ?_⟩
        · rw [if_pos hb] at hx
          obtain ⟨hlen, hx⟩ := hx
          obtain ⟨qc, qi, qh⟩ := q
          dsimp only at hlen hx ⊢
          refine ⟨x, C, F', S', rfl, hC, xa, sr'.re, F', S', (match qi with | some i => ρ'.set i (some (.ref a)) | none => ρ'), { nx := fun ρ2 S2 => R.nx (clr qi ρ2) S2, rt := R.rt, bk := fun _ _ => False, ct := fun _ _ => False }, sr'.re, ?_, ?_, ?_⟩
          · cases qi with
            | none => exact er'
            | some i => exact er'.set (.ref a) i
          · cases qi with
            | none => exact wH_wHs qh (fun i e => nomatch e) hx
            | some i =>
              refine wH_wHs qh (fun j e => by cases e; exact List.getElem?_set_self (hlen i rfl)) ?_
              show wH G x (some i) qh ((ρ'.set i (some (.ref a))).set i none) S' R
              rw [List.set_set]; exact hx
          · refine ⟨fun ρ2 S2 h2 F2 H2 σ2 e2 s2 er2 => ?_, fun u S2 h2 F2 H2 v e2 s2 rv => ?_, fun _ _ z => z.elim, fun _ _ z => z.elim⟩
            · have s3 := sr'.back (cls := ⟨cls.cls, F, H, S⟩) s2
              refine l.nx _ _ h2 F2 H2 _ (e0.trans e2) (sr.back s3) ?_
              cases qi with
              | none => exact er2
              | some i => exact er2.setNone i
            · have s3 := sr'.back (cls := ⟨cls.cls, F, H, S⟩) s2
              exact l.rt _ _ h2 F2 H2 v (e0.trans e2) (sr.back s3) rv
        · rw [if_neg (by rw [hb]; exact Bool.false_ne_true)] at hx
          exact ih hx
    exact go hk hx
  · exact ⟨fun ρ' S' h' F' H' σ' e s' er' => l.nx _ _ h' F' H' σ' e (sr.back s') er', fun u S' h' F' H' v e s' rv => l.rt _ _ h' F' H' v e (sr.back s') rv, fun ρ' S' h' F' H' σ' e s' er' => l.bk _ _ h' F' H' σ' e (sr.back s') er', fun ρ' S' h' F' H' σ' e s' er' => l.ct _ _ h' F' H' σ' e (sr.back s') er'⟩
end
end Mm
/-! MmI: does the small text stand for the Python text? -/
namespace Mm
open PySem PySem.Spec PyProof.Rows L2
structure ClsN where
  name : Str
  meths : List Str
structure GN where
  fns : List Str
  globs : List Str
  cls : List ClsN
  /-- the exceptions' classes; the names of their fields -/
  exc : List Str := []
  efl : List Str := []
def glB (sc : Scope) (x : Str) : Bool := match sc.names.lookup x with | some .globalImplicit => true | _ => false
def visB (sc : Scope) (x : Str) : Bool := match sc.names.lookup x with | some .local => true | some .cell => true | some .free => true | _ => false
def locB (sc : Scope) (x : Str) : Bool := match sc.names.lookup x with | some .local => true | some .cell => true | _ => false
def lclB (sc : Scope) (x : Str) : Bool := match sc.names.lookup x with | some .local => true | _ => false
def celB (sc : Scope) (x : Str) : Bool := match sc.names.lookup x with | some .cell => true | _ => false
def namB (x : Str) : Bool := decide (x ≠ "__debug__") && decide (x ≠ "__classdict__")
def litOk : U → Const → Bool
  | .non, .none => true
  | .bl b, .bool c => b == c
  | .int i, .int j => i == j
  | .str s, .str x => decide (x = ⟨s.toArray⟩)
  | _, _ => false
def plainX : Expr → Bool
  | .BoolOp .. | .BinOp .. | .UnaryOp .. | .IfExp .. | .ListComp .. | .Compare .. | .Call .. | .FormattedValue .. | .JoinedStr .. | .Constant .. | .Attribute .. | .Subscript .. | .Name .. | .List .. | .Tuple .. | .Dict .. => true
  | _ => false
def noSup : Expr → Bool
  | .Call (.Name id _) [] [] _ => decide (id ≠ "super")
  | _ => true
/-- a test that goes by its value's truth -/
def valX : Expr → Bool
  | .UnaryOp .Not _ _ | .BoolOp .. | .IfExp .. | .Compare .. => false
  | _ => true
def noComp : Expr → Bool
  | .ListComp .. | .SetComp .. | .DictComp .. => false
  | _ => true
def noTup : Expr → Bool
  | .Tuple .. | .List .. => false
  | _ => true
def tyB (t : String) (nm : Str) : Bool := match t with
  | "str" => decide (nm = "str")
  | "int" => decide (nm = "int")
  | "bool" => decide (nm = "bool")
  | "tuple" => decide (nm = "tuple")
  | "list" => decide (nm = "list")
  | "dict" => decide (nm = "dict")
  | _ => false
def bltNames : List Str := ["len", "int", "max", "min", "all", "any", "list", "tuple", "isinstance", "range", "str", "bool", "dict", "reversed", "repr", "enumerate", "set", "sorted", "abs"]
def chkTg (N : List Str) (ok : Str → Bool) : Tg → Expr → Bool
  | .one i, .Name x _ => decide (N[i]? = some x) && ok x
  | .tup is, .Tuple xs _ _ => chkNms N ok is xs
  | _, _ => false
where chkNms (N : List Str) (ok : Str → Bool) : List Nat → List Expr → Bool
  | [], [] => true
  | i :: is, .Name x _ :: xs => decide (N[i]? = some x) && ok x && chkNms N ok is xs
  | _, _ => false
def isTup : Expr → Bool
  | .Tuple .. => true
  | _ => false
def isYes : T → Bool
  | .yes => true
  | _ => false
mutual
def chkE (g : GN) (N : List Str) : E → Scope → Expr → Bool
  | .lit u, _, .Constant k _ _ => litOk u k
  | .var i, sc, .Name x _ => decide (N[i]? = some x) && visB sc x && namB x
  | .glb i, sc, .Name x _ => decide (g.globs[i]? = some x) && glB sc x && namB x
  | .bin o _ a b, sc, .BinOp xa op xb _ => decide (op = o.op) && chkE g N a sc xa && chkE g N b sc xb
  | .neg a, sc, .UnaryOp .USub xa _ => chkE g N a sc xa
  | .cmp o a b, sc, .Compare xa [op] [xb] _ => decide (op = o.op) && chkE g N a sc xa && chkE g N b sc xb
  | .chain o p a b c, sc, .Compare xa [op, op'] [xb, xc] _ => decide (op = o.op) && decide (op' = p.op) && chkE g N a sc xa && chkE g N b sc xb && chkE g N c sc xc
  | .ands es, sc, .BoolOp .And xs _ => chkEs g N es sc xs
  | .ors es, sc, .BoolOp .Or xs _ => chkEs g N es sc xs
  | .nt a, sc, .UnaryOp .Not xa _ => chkE g N a sc xa
  | .ife t a b, sc, .IfExp xt xa xb _ => chkT g N t sc xt && chkE g N a sc xa && chkE g N b sc xb
  | .tup es, sc, .Tuple xs _ _ => chkEs g N es sc xs
  | .lst _ es, sc, .List xs _ => chkEs g N es sc xs
  | .slc _ a lo hi, sc, .Subscript xa (.Slice xl xh none _) _ => chkE g N a sc xa && chkO g N lo sc xl && chkO g N hi sc xh
  | .rev _ a, sc, .Subscript xa (.Slice none none (some (.UnaryOp .USub (.Constant (.int 1) _ _) _)) _) _ => chkE g N a sc xa
  | .revT a, sc, .Subscript xa (.Slice none none (some (.UnaryOp .USub (.Constant (.int 1) _ _) _)) _) _ => chkE g N a sc xa
  | .repr a, sc, .Call (.Name f _) [xa] [] _ => decide (f = "repr") && glB sc f && chkE g N a sc xa
  | .dct1 a b, sc, .Dict [some xa] [xb] _ => chkE g N a sc xa && chkE g N b sc xb
  | .idx a i, sc, .Subscript xa xi _ => chkE g N a sc xa && chkE g N i sc xi
  | .lc _ own gt it c e, sc, .ListComp xe [⟨xt, xi, ifs, 0⟩] scope _ =>
    blkC N sc scope own && chkI g N it sc xt xi && chkTg N (lclB (relS scope sc)) gt xt && decide (∀ i ∈ gt.slots, i ∈ own.map (·.2)) && (match ifs with | [] => isYes c | [x] => chkT g N c (relS scope sc) x | _ => false) && chkE g N e (relS scope sc) xe
  | .isi a t, sc, .Call (.Name f _) [xa, .Name nm _] [] _ => decide (f = "isinstance") && glB sc f && glB sc nm && tyB t nm && chkE g N a sc xa
  | .call f es, sc, .Call (.Name x _) xs [] _ => decide (g.fns[f]? = some x) && glB sc x && namB x && chkEs g N es sc xs
  | .blt b es, sc, .Call (.Name x _) xs [] _ => decide (x = b.nm) && glB sc x && !xs.isEmpty && chkEs g N es sc xs
  | .mk c es, sc, .Call (.Name x _) xs [] _ => decide ((g.cls[c]?).map (·.name) = some x) && glB sc x && namB x && !xs.isEmpty && chkEs g N es sc xs
  | .meth m o es, sc, .Call (.Attribute xo nm ap) xs [] cp => decide (nm = m.nm) && noSup xo && (ap.endLine == cp.line) && decide (xs.length < 29) && chkE g N o sc xo && chkEs g N es sc xs
  | .omt c m o es, sc, .Call (.Attribute xo nm ap) xs [] cp => decide ((g.cls[c]?).bind (fun z => z.meths[m]?) = some nm) && noSup xo && (ap.endLine == cp.line) && decide (xs.length < 29) && chkE g N o sc xo && chkEs g N es sc xs
  | .fld o f, sc, .Attribute xo f' _ => decide (f' = f) && noSup xo && chkE g N o sc xo
  | .fstr es, sc, .JoinedStr xs _ => decide (2 ≤ xs.length) && chkEs g N es sc xs
  | .fmt a, sc, .FormattedValue xa (-1) none _ => chkE g N a sc xa
  | .frz a, sc, x => chkE g N a sc x
  | .gst a, sc, x => chkE g N a sc x
  | .dct0, _, .Dict [] [] _ => true
  | .dnk0, _, .Dict [] [] _ => true
  | .dget o k d, sc, .Call (.Attribute xo nm ap) [x, y] [] cp => decide (nm = "get") && noSup xo && (ap.endLine == cp.line) && chkE g N o sc xo && chkE g N k sc x && chkE g N d sc y
  | .srts _ a, sc, .Call (.Name f _) [.Call (.Name f2 _) [x] [] _] [] _ => decide (f = "sorted") && decide (f2 = "set") && glB sc f && glB sc f2 && chkE g N a sc x
  | .srtsc _ own gt it c e, sc, .Call (.Name f _) [.SetComp xe [⟨xt, xi, ifs, 0⟩] scope _] [] _ =>
    decide (f = "sorted") && glB sc f && blkC N sc scope own && chkI g N it sc xt xi && chkTg N (lclB (relS scope sc)) gt xt && decide (∀ i ∈ gt.slots, i ∈ own.map (·.2)) && (match ifs with | [] => isYes c | [x] => chkT g N c (relS scope sc) x | _ => false) && chkE g N e (relS scope sc) xe
  | .lc2 _ own vs gt it c gt1 it1 c1 e, sc, .ListComp xe [⟨xt, xi, ifs, 0⟩, ⟨xt1, xi1, ifs1, 0⟩] scope _ =>
    blkC N sc scope own && chkI g N it sc xt xi && chkTg N (lclB (relS scope sc)) gt xt && decide (∀ i ∈ gt.slots, i ∈ own.map (·.2)) && (match ifs with | [] => isYes c | [x] => chkT g N c (relS scope sc) x | _ => false) &&
    decide (∀ i ∈ vs, i ∈ own.map (·.2)) && chkI g N it1 (relS scope sc) xt1 xi1 && chkTg N (lclB (relS scope sc)) gt1 xt1 && decide (∀ i ∈ gt1.slots, i ∈ vs) && (match ifs1 with | [] => isYes c1 | [x] => chkT g N c1 (relS scope sc) x | _ => false) && chkE g N e (relS scope sc) xe
  | _, _, _ => false
def chkEs (g : GN) (N : List Str) : Es → Scope → List Expr → Bool
  | .nil, _, [] => true
  | .cons e es, sc, x :: xs => chkE g N e sc x && chkEs g N es sc xs
  | _, _, _ => false
def chkT (g : GN) (N : List Str) : T → Scope → Expr → Bool
  | .val e, sc, x => valX x && chkE g N e sc x
  | .tru e, sc, x => valX x && chkE g N e sc x
  | .cmp o a b, sc, .Compare xa [op] [xb] _ => decide (op = o.op) && chkE g N a sc xa && chkE g N b sc xb
  | .chain o p a b c, sc, .Compare xa [op, op'] [xb, xc] _ => decide (op = o.op) && decide (op' = p.op) && chkE g N a sc xa && chkE g N b sc xb && chkE g N c sc xc
  | .ands ts, sc, .BoolOp .And xs _ => chkTs g N ts sc xs
  | .ors ts, sc, .BoolOp .Or xs _ => chkTs g N ts sc xs
  | .nt t, sc, .UnaryOp .Not x _ => chkT g N t sc x
  | _, _, _ => false
def chkTs (g : GN) (N : List Str) : Ts → Scope → List Expr → Bool
  | .one t, sc, [x] => chkT g N t sc x
  | .cons t ts, sc, x :: y :: xs => chkT g N t sc x && chkTs g N ts sc (y :: xs)
  | _, _, _ => false
def chkI (g : GN) (N : List Str) : It → Scope → Expr → Expr → Bool
  | .seq e, sc, _, x => chkE g N e sc x
  | .rng1 a, sc, _, .Call (.Name f _) [x] [] _ => decide (f = "range") && glB sc f && chkE g N a sc x
  | .rng2 a b, sc, _, .Call (.Name f _) [x, y] [] _ => decide (f = "range") && glB sc f && chkE g N a sc x && chkE g N b sc y
  | .rngD a b, sc, _, .Call (.Name f _) [x, y, .UnaryOp .USub (.Constant (.int 1) _ _) _] [] _ => decide (f = "range") && glB sc f && chkE g N a sc x && chkE g N b sc y
  | .rvs a, sc, _, .Call (.Name f _) [x] [] _ => decide (f = "reversed") && glB sc f && chkE g N a sc x
  | .enum a, sc, t, .Call (.Name f _) [x] [] _ => isTup t && decide (f = "enumerate") && glB sc f && chkE g N a sc x
  | .items a, sc, t, .Call (.Attribute xo nm ap) [] [] cp => isTup t && decide (nm = "items") && noSup xo && (ap.endLine == cp.line) && chkE g N a sc xo
  | _, _, _, _ => false
def chkO (g : GN) (N : List Str) : O → Scope → Option Expr → Bool
  | .no, _, none => true
  | .so e, sc, some x => chkE g N e sc x
  | _, _, _ => false
end
def chkPt : List (List Nat) → Pattern → Bool
  | [z], .MatchValue (.Constant (.str x) _ _) _ => decide (x = ⟨z.toArray⟩) && (U.str z).data
  | ps, .MatchOr pts _ => go ps pts
  | _, _ => false
where go : List (List Nat) → List Pattern → Bool
  | [], [] => true
  | z :: ps, .MatchValue (.Constant (.str x) _ _) _ :: pts => decide (x = ⟨z.toArray⟩) && (U.str z).data && go ps pts
  | _, _ => false
def isLc : E → Bool
  | .lc .. => true
  | .lc2 .. => true
  | _ => false
mutual
/-- a suite's expression; n the clause's name -/
def chkHE (g : GN) (N : List Str) (sc : Scope) (n : Option Str) : HE → Expr → Bool
  | .lit u, .Constant c _ _ => u.lit && litOk u c
  | .fx f, .Attribute (.Name m _) f' _ => decide (n = some m) && decide (f' = f) && g.efl.contains f
  | .is t, .Call (.Name nm _) [.Name m _, .Name t' _] [] _ => decide (nm = "isinstance") && decide (n = some m) && decide (t' = t) && glB sc nm && glB sc t && namB t
  | .nt a, .UnaryOp .Not x _ => chkHE g N sc n a x
  | .and a b, .BoolOp .And [x, y] _ => chkHE g N sc n a x && chkHE g N sc n b y
  | .and a b, .BoolOp .And (x :: y :: z :: r) p => chkHE g N sc n a x && chkHE g N sc n b (.BoolOp .And (y :: z :: r) p)
  | .var j, .Name x _ => decide (N[j]? = some x) && visB sc x && namB x
  | .lst es, .List xs _ => chkHEs g N sc n es xs
  | .add a b, .BinOp x .Add y _ => chkHE g N sc n a x && chkHE g N sc n b y
  | .repr a, .Call (.Name f _) [x] [] _ => decide (f = "repr") && glB sc f && chkHE g N sc n a x
  | _, _ => false
def chkHEs (g : GN) (N : List Str) (sc : Scope) (n : Option Str) : HEs → List Expr → Bool
  | .nil, [] => true
  | .cons e es, x :: xs => chkHE g N sc n e x && chkHEs g N sc n es xs
  | _, _ => false
end
def chkH1 (g : GN) (N : List Str) (sc : Scope) (n : Option Str) : Hs → Stmt → Bool
  | .ret e, .Return (some x) _ => chkHE g N sc n e x
  | .set j e, .Assign [.Name y _] x _ => decide (N[j]? = some y) && lclB sc y && noComp x && chkHE g N sc n e x
  | .pas, .Pass _ => true
  | _, _ => false
def chkHs (g : GN) (N : List Str) (sc : Scope) (n : Option Str) : List Hs → List Stmt → Bool
  | [], [] => true
  | h :: hs, s :: ss => chkH1 g N sc n h s && chkHs g N sc n hs ss
  | _, _ => false
/-- a clause -/
def chkQ (g : GN) (N : List Str) (sc : Scope) : Cl → ExceptHandler → Bool
  | ⟨c, none, h⟩, .ExceptHandler (some (.Name x _)) none ss _ => decide (g.exc[c]? = some x) && glB sc x && namB x && !ss.isEmpty && chkHs g N sc none h ss
  | ⟨c, some i, h⟩, .ExceptHandler (some (.Name x _)) (some n) ss _ => decide (g.exc[c]? = some x) && glB sc x && namB x && !ss.isEmpty && decide (N[i]? = some n) && lclB sc n && namB n && chkHs g N sc (some n) h ss
  | _, _ => false
def chkQs (g : GN) (N : List Str) (sc : Scope) : List Cl → List ExceptHandler → Bool
  | [], [] => true
  | q :: qs, h :: hs => chkQ g N sc q h && chkQs g N sc qs hs
  | _, _ => false
def raiOf : Stmt → Option (Str × List Expr)
  | .Raise (some (.Call (.Name x _) xs [] _)) none _ => some (x, xs)
  | _ => none
def tryOf : Stmt → Option (List Stmt × List ExceptHandler)
  | .Try xb hds [] [] _ => some (xb, hds)
  | _ => none
theorem raiOf_ok {s : Stmt} {x : Str} {xs : List Expr} (h : raiOf s = some (x, xs)) : ∃ p pos pos2, s = .Raise (some (.Call (.Name x p) xs [] pos)) none pos2 := by
  unfold raiOf at h
  split at h
  · cases h; exact ⟨_, _, _, rfl⟩
  · cases h
theorem tryOf_ok {s : Stmt} {xb : List Stmt} {hds : List ExceptHandler} (h : tryOf s = some (xb, hds)) : ∃ pos, s = .Try xb hds [] [] pos := by
  unfold tryOf at h
  split at h
  · cases h; exact ⟨_, rfl⟩
  · cases h
mutual
def chkS (g : GN) (N : List Str) : Cm → Scope → Stmt → Bool
  | .set i e, sc, .Assign [.Name x p] xe _ => decide (N[i]? = some x) && chkE g N e sc xe && match xe with
    | .ListComp _ _ scope q => if celB sc x then true else isLc e && lclB sc x && (p.line == q.line) && !(scope.names.any fun (n, k) => n == x && (k == .local || k == .cell))
    | _ => locB sc x
  | .setT is e, sc, .Assign [.Tuple xs _ _] xe _ => chkTg.chkNms N (locB sc) is xs && noTup xe && chkE g N e sc xe
  | .setIx o i e, sc, .Assign [.Subscript xo xi _] xe _ => chkE g N o sc xo && chkE g N i sc xi && chkE g N e sc xe
  | .setF o f e, sc, .Assign [.Attribute xo f' _] xe _ => decide (f' = f) && chkE g N o sc xo && chkE g N e sc xe
  | .aug i o e, sc, .AugAssign (.Name x _) op xe _ => decide (N[i]? = some x) && decide (op = o.op) && (decide (o = .add) || decide (o = .sub)) && locB sc x && chkE g N e sc xe
  | .ex e, sc, .Expr xe _ => noComp xe && chkE g N e sc xe
  | .ret e, sc, .Return (some xe) _ => chkE g N e sc xe
  | .retN, _, .Return none _ => true
  | .ite t a b, sc, .If xt xa xb _ => chkT g N t sc xt && chkSs g N a sc xa && chkSs g N b sc xb
  | .whl t b, sc, .While xt xb [] _ => chkT g N t sc xt && chkSs g N b sc xb
  | .for gt it b, sc, .For xt xi xb [] _ => chkTg N (locB sc) gt xt && chkI g N it sc xt xi && chkSs g N b sc xb
  | .brk, _, .Break _ => true
  | .cnt, _, .Continue _ => true
  | .pas, _, .Pass _ => true
  | .mat e cs, sc, .Match xe xs _ => chkE g N e sc xe && chkCs g N cs sc xs
  | .tryN b, sc, .Try xb (_ :: _) [] [] _ => chkSs g N b sc xb
  | .never, _, _ => true
  | .rai c es, sc, x => match raiOf x with
    | some (x, xs) => decide (g.exc[c]? = some x) && glB sc x && namB x && !xs.isEmpty && chkEs g N es sc xs
    | none => false
  | .rai0 c, sc, x => match raiOf x with
    | some (x, []) => decide (g.exc[c]? = some x) && glB sc x && namB x
    | _ => false
  | .tryM b qs, sc, x => match tryOf x with
    | some (xb, hds) => !hds.isEmpty && chkQs g N sc qs hds && chkSs g N b sc xb
    | none => false
  | _, _, _ => false
def chkSs (g : GN) (N : List Str) : Cms → Scope → List Stmt → Bool
  | .nil, _, [] => true
  | .cons s r, sc, x :: xs => chkS g N s sc x && chkSs g N r sc xs
  | _, _, _ => false
def chkCs (g : GN) (N : List Str) : Cs → Scope → List MatchCase → Bool
  | .nil, _, [] => true
  | .dflt b, sc, ⟨.MatchAs none none _, none, xb⟩ :: _ => chkSs g N b sc xb
  | .cons ps b r, sc, ⟨p, none, xb⟩ :: xs => chkPt ps p && chkSs g N b sc xb && chkCs g N r sc xs
  | _, _, _ => false
end
end Mm
/-! MmJ: the small text's wishes hold of the Python text -/
namespace Mm
open PySem PySem.Spec PyProof.Rows L2
/-- a def of the text keeps a promise -/
structure DefOk (b : Bool) (P : Program) (w : World) (K : PySem.W.Frag) (mg : Str → Option Value) (base : Heap) (cl ecl : List Addr) (k : Nat) (f : Addr) (sp : FS) : Prop where
  ex : ∃ fd ps, FnB b P w K mg base k f fd ps (liftSp K cl ecl sp) ∧ L2.Binds K fd ps []
/-- what the top has left of the exceptions' classes -/
structure ExF (g : GN) (G : GV) (ecl : List Addr) (k : Nat) (P : Program) (w : World) (K : PySem.W.Frag) (mg : Str → Option Value) (base : Heap) : Prop where
  nm : ∀ (c : Nat) x, g.exc[c]? = some x → ∃ C, ecl[c]? = some C ∧ mg x = some (.ref C)
  row : ∀ (c : Nat) C fl, ecl[c]? = some C → G.exn[c]? = some (some fl) → (fl ≠ [] → ExRow P w K mg base k C fl ∧ fl.length ≤ 900) ∧ (fl = [] → Mk0 P w K mg base k C)
  em : ∀ (i : Nat) C (c : Nat) C', ecl[i]? = some C → ecl[c]? = some C' → PySem.W.exmOne K (.ref C) (.ref C') = some (G.esub i c)
  xf : ∀ (c : Nat) C, ecl[c]? = some C → XfC K C ∧ ExcC K C ∧ ∀ f, g.efl.contains f = true → PySem.W.findIn K (.ref C) f = some none
  ki : ∀ (c : Nat) C t b, ecl[c]? = some C → G.eis c t = some b → ∃ v cv, (mg t = some cv ∨ (mg t = none ∧ bootBuiltins t = some cv ∧ t ≠ "__name__")) ∧ RelV v cv ∧ (∀ u, RelV v u → u = cv) ∧ PySem.W.kitOne K (.ref C) cv = some b
structure XOk (g : GN) (G : GV) (cls : Anc) (ecl : List Addr) (k : Nat) (RX : RXn) (W : WX) (X : Cx) (sc : Scope) : Prop where
  nd : X.N.Nodup
  sc : X.env.scope = sc
  kd : X.env.scope.kind = .function
  calm : X.calm = true
  room : Room (k + 1) X.A
  own : PassesOwn (model X.prog X.w) X.A X.env X.xe
  pass : ∀ Y : Cx, Y.prog = X.prog → Y.w = X.w → Passes (L2.CX X.prog X.w) Y E0
  fn : ∀ (i : Nat) sp, G.fns[i]? = some sp → ∃ nm f, g.fns[i]? = some nm ∧ DefOk G.gd X.prog X.w X.K X.mg X.base cls.cls ecl k f sp ∧ X.mg nm = some (.ref f) ∧ PySem.W.keepIn X.K (.ref f) = true
  gl : ∀ (i : Nat) u, G.globs[i]? = some u → ∃ nm v w, g.globs[i]? = some nm ∧ X.mg nm = some w ∧ RelV v w ∧ ∀ F H, VRel X.K F H v u
  blt : ∀ x ∈ bltNames, X.mg x = none
  cl : ∀ (c : Nat) cv, G.cls[c]? = some cv → ∃ cn C f, g.cls[c]? = some cn ∧ cls.cls[c]? = some C ∧ Mk X.K C f ∧ DefOk false X.prog X.w X.K X.mg X.base cls.cls ecl k f cv.init ∧ X.mg cn.name = some (.ref C) ∧
    ∀ (m : Nat) sp, cv.meths[m]? = some sp → ∃ nm f, cn.meths[m]? = some nm ∧ Meth X.K C nm f ∧ DefOk false X.prog X.w X.K X.mg X.base cls.cls ecl k f sp ∧ G.attr c nm = false
  at_ : ∀ (c : Nat) C f, cls.cls[c]? = some C → Cls X.K C ∧ (G.attr c f = true → NoAttr X.K C f)
  exf : ExF g G ecl k X.prog X.w X.K X.mg X.base
  grd : G.gd = true → X.A.guards = some []
  tk : Takes X W
  lx : LX X.K cls ecl RX W
section
variable {g : GN} {G : GV} {cls : Anc} {ecl : List Addr} {k : Nat} {RX : RXn} {W : WX}
/-! what a text that is taken looks like -/
theorem plain_of {N : List Str} : ∀ {e : E} {sc : Scope} {x : Expr}, chkE g N e sc x = true → plainX x = true := by
  intro e
  induction e using E.rec (motive_2 := fun _ => True) (motive_3 := fun _ => True) (motive_4 := fun _ => True) (motive_5 := fun _ => True) (motive_6 := fun _ => True) with
  | frz a ih => intro sc x h; exact ih (sc := sc) (by unfold chkE at h; exact h)
  | gst a ih => intro sc x h; exact ih (sc := sc) (by unfold chkE at h; exact h)
  | _ =>
    first
    | trivial
    | (intro sc x h
       cases x <;> first | rfl | (unfold chkE at h; cases h))
theorem star_plain {x : Expr} (h : plainX x = true) (xs : List Expr) (env : PySem.Env) : starEach (x :: xs) env = (false, eval x env) :: starEach xs env := by
  cases x <;> first | rfl | (cases h)
theorem star_all {N : List Str} : ∀ {es : Es} {sc : Scope} {xs : List Expr}, chkEs g N es sc xs = true → ∀ env : PySem.Env, starEach xs env = xs.map fun x => (false, eval x env)
  | .nil, _, [], _, _ => rfl
  | .cons e es, sc, x :: xs, h, env => by
    unfold chkEs at h
    rw [Bool.and_eq_true] at h
    rw [star_plain (plain_of h.1), star_all h.2, List.map_cons]
  | .nil, _, _ :: _, h, _ => by unfold chkEs at h; cases h
  | .cons _ _, _, [], h, _ => by unfold chkEs at h; cases h
theorem noany {xs : List Expr} {env : PySem.Env} {pos : Pos} (h : starEach xs env = xs.map fun x => (false, eval x env)) : (backTo pos (starEach xs env)).any (·.1) = false := by
  rw [h]; unfold backTo
  rw [List.map_map, List.any_map]
  induction xs with
  | nil => rfl
  | cons x xs ih => rw [List.any_cons]; simp at ih ⊢
theorem fewOk {xs : List Expr} {env : PySem.Env} {pos : Pos} (h : starEach xs env = xs.map fun x => (false, eval x env)) (hl : xs.length < 29) :
    ((backTo pos (starEach xs env)).all (fun x => !x.1) && (backToKw pos (keywordEach [] env)).all (fun x => x.1.isSome) && decide (xs.length + ([] : List Keyword).length + (if ([] : List Keyword).isEmpty then 0 else 1) < 30)) = true := by
  rw [h]; unfold backTo
  rw [List.map_map, List.all_map]
  rw [Bool.and_eq_true, Bool.and_eq_true]
  refine ⟨⟨?_, rfl⟩, ?_⟩
  · rw [List.all_eq_true]; intro x _; rfl
  · exact decide_eq_true (by show xs.length + 0 + 0 < 30; omega)
theorem base_plain {x : Expr} (h : noSup x = true) (f : Str) (env : PySem.Env) : attributeBase x f env (eval x env) = eval x env := by
  unfold attributeBase
  split
  · next id p q =>
    have hid : id ≠ "super" := by simpa [noSup] using h
    have e : (id != ("super" : Str)) = true := by simpa using hid
    simp only [e, Bool.true_or, if_true]
  · rfl
theorem plainIx_of {x : Expr} (h : plainX x = true) : PlainIx x := by
  cases x <;> first | (intro _ _; rfl) | (cases h)
theorem noSet_of {x : Expr} (h : plainX x = true) (env : PySem.Env) : ∀ v, foldedSetIterable x env v = pure v := by
  cases x <;> first | (intro _; rfl) | (cases h)
theorem val_of {x : Expr} (h : valX x = true) (h' : plainX x = true) (env : PySem.Env) : ∀ whole, isTrue x env whole = (do let v ← whole; standAt x.pos; holding [v] (truthy v)) := by
  cases x <;> first | (intro _; rfl) | (cases h; done) | (cases h'; done) | skip
  all_goals (next op a p => cases op <;> first | (intro _; rfl) | (cases h))
theorem noComp_sw {x : Expr} (h : noComp x = true) (t : Option Expr) (l : Nat) (env : PySem.Env) : swapsWith x t l env = pure false := by
  cases x <;> first | rfl | (cases h)
abbrev noX : RXn := fun _ _ _ => False
theorem tyB_ok {t : String} {nm : Str} (h : tyB t nm = true) : bootBuiltins nm = some (.type t) ∧ nm ∈ bltNames ∧ nm ≠ "__name__" ∧ (nm == ("__debug__" : Str)) = false := by
  unfold tyB at h
  split at h <;> first | (cases h; done) | (have e := of_decide_eq_true h; subst e; exact ⟨by decide +kernel, by decide +kernel, by decide +kernel, by decide +kernel⟩)
theorem nam_ok {x : Str} (h : namB x = true) : (x == ("__debug__" : Str)) = false ∧ (x == ("__classdict__" : Str)) = false := by
  unfold namB at h
  rw [Bool.and_eq_true] at h
  have h1 := of_decide_eq_true h.1
  have h2 := of_decide_eq_true h.2
  exact ⟨by simpa using h1, by simpa using h2⟩
theorem plain_he {N : List Str} {sc : Scope} {n : Option Str} {h : HE} {x : Expr} (e : chkHE g N sc n h x = true) : plainX x = true := by
  cases x <;> first | rfl | (cases h <;> (unfold chkHE at e; cases e))
variable {X : Cx} {sc : Scope}
theorem XOk.gl' (ok : XOk g G cls ecl k RX W X sc) {x : Str} (h : glB sc x = true) : Gl X x := by
  unfold glB at h
  show X.env.scope.names.lookup x = _
  rw [ok.sc]
  split at h
  · assumption
  · cases h
theorem XOk.vis (ok : XOk g G cls ecl k RX W X sc) {x : Str} (h : visB sc x = true) : Vis X.env.scope x := by
  unfold visB at h
  unfold Vis
  rw [ok.sc]
  split at h <;> first | (cases h; done) | (next e => rw [e]; simp)
theorem XOk.loc (ok : XOk g G cls ecl k RX W X sc) {x : Str} (h : locB sc x = true) : L2.Loc X.env.scope x := by
  unfold locB at h
  unfold L2.Loc
  rw [ok.sc]
  split at h <;> first | (cases h; done) | (next e => rw [e]; simp)
theorem XOk.lcl (ok : XOk g G cls ecl k RX W X sc) {x : Str} (h : lclB sc x = true) : X.env.scope.names.lookup x = some .local := by
  unfold lclB at h
  rw [ok.sc]
  split at h <;> first | (cases h; done) | assumption
theorem XOk.units (ok : XOk g G cls ecl k RX W X sc) : X.A.units + 128 < cLine := by have := ok.room.un; omega
theorem XOk.blk (ok : XOk g G cls ecl k RX W X sc) {scope : Scope} {own : List (Str × Nat)} (hb : BlkOk X.N X.env.scope scope own) (s : Shared) (H : Hp) (C : Addr) (cl : List (Str × Addr)) (fp : List Addr) :
    XOk g G cls ecl k noX (fun _ _ _ _ => False) (X.blk s H scope (compEnvC scope cl C X.env) fp) (relS scope sc) :=
  ⟨ok.nd, by show relS scope X.env.scope = _; rw [ok.sc], hb.kind, ok.calm, ok.room, PassesOwn.never, fun Y h1 h2 => ok.pass Y h1 h2, ok.fn, ok.gl, ok.blt, ok.cl, ok.at_, ok.exf, ok.grd, takes0, fun _ _ _ z => z.elim⟩
theorem tg_ok {ok' : Str → Bool} (hN : X.N.Nodup) (hc : X.calm = true) (hs : ∀ x, ok' x = true → L2.Loc X.env.scope x ∧ (X.fn x = true ∨ X.env.scope.names.lookup x = some .local)) {t : Tg} {x : Expr} (h : chkTg X.N ok' t x = true) : PG X x (gOf X.K t) := by
  cases t with
  | one i =>
    cases x <;> first | (unfold chkTg at h; cases h; done) | skip
    unfold chkTg at h
    rw [Bool.and_eq_true] at h
    obtain ⟨h1, h2⟩ := hs _ h.2
    exact pg_name hN (of_decide_eq_true h.1) h1 h2
  | tup is =>
    cases x <;> first | (unfold chkTg at h; cases h; done) | skip
    next xs j p =>
    unfold chkTg at h
    have key : ∀ (is : List Nat) (xs : List Expr), chkTg.chkNms X.N ok' is xs = true → PGs X xs (gsOf is) ∧ (assignEach xs X.env).length = is.length ∧ (assignEach xs X.env).findIdx? (·.1) = none := by
      intro is
      induction is with
      | nil =>
        intro xs h
        cases xs with
        | nil => exact ⟨pgs_nil, rfl, rfl⟩
        | cons x xs => unfold chkTg.chkNms at h; cases h
      | cons i is ih =>
        intro xs h
        cases xs with
        | nil => unfold chkTg.chkNms at h; cases h
        | cons x xs =>
          cases x <;> first | (unfold chkTg.chkNms at h; cases h; done) | skip
          unfold chkTg.chkNms at h
          rw [Bool.and_eq_true, Bool.and_eq_true] at h
          obtain ⟨h1, h2⟩ := hs _ h.1.2
          obtain ⟨i1, i2, i3⟩ := ih xs h.2
          refine ⟨pgs_cons (pg_name hN (of_decide_eq_true h.1.1) h1 h2) i1, by show (_ :: assignEach xs X.env).length = _; simp [i2], ?_⟩
          show (_ :: assignEach xs X.env).findIdx? _ = none
          rw [List.findIdx?_cons]
          simp [i3]
    obtain ⟨h1, h2, h3⟩ := key is xs h
    exact pg_tup hc h1 h2 h3
end
end Mm
/-! MmK: expressions -/
namespace Mm
open PySem PySem.Spec PyProof.Rows L2
section
variable {g : GN} {G : GV} {cls : Anc} {ecl : List Addr} {k : Nat}
theorem bools {a b : Bool} (h : (a && b) = true) : a = true ∧ b = true := by simpa using h
theorem lit_ok {X : Cx} {u : U} {c : Const} {j : Nat} {p : Pos} (h : litOk u c = true) : PE X (.Constant c j p) (tE X.K cls fun _ S R => R u S) := by
  cases u <;> cases c <;> first | (cases h; done) | skip
  · exact s_lit pe_non fun _ _ => .non
  · have e := eq_of_beq h; subst e; exact s_lit pe_bl fun _ _ => .bl _
  · have e := eq_of_beq h; subst e; exact s_lit pe_int fun _ _ => .int _
  · have e := of_decide_eq_true h; subst e; exact s_lit pe_str fun _ _ => .str _
theorem cop_mark (o : Cop) {x : Expr} (h : plainX x = true) : behindInMarks o.op x = false := by
  cases x <;> first | rfl | (cases h)
theorem PTs.imp {X : Cx} {es : List Expr} {t t' : TT} (h : PTs X es t) (f : ∀ σ H Q, t' σ H Q → t σ H Q) : PTs X es t' := ⟨fun pins s σ H Q I q => h.run pins s σ H Q I (f σ H Q q)⟩
theorem inv_call {N : List Str} {f : Nat} {es : Es} {sc : Scope} {x : Expr} (h : chkE g N (.call f es) sc x = true) : ∃ nm p xs cp, x = .Call (.Name nm p) xs [] cp ∧ (decide (g.fns[f]? = some nm) && glB sc nm && namB nm && chkEs g N es sc xs) = true := by
  cases x <;> first | (unfold chkE at h; cases h; done) | skip
  unfold chkE at h
  split at h <;> first | (cases h; done) | contradiction | skip
  next e1 e2 =>
  cases e1; cases e2
  exact ⟨_, _, _, _, rfl, h⟩
theorem inv_blt {N : List Str} {b : Blt} {es : Es} {sc : Scope} {x : Expr} (h : chkE g N (.blt b es) sc x = true) : ∃ nm p xs cp, x = .Call (.Name nm p) xs [] cp ∧ (decide (nm = b.nm) && glB sc nm && !xs.isEmpty && chkEs g N es sc xs) = true := by
  cases x <;> first | (unfold chkE at h; cases h; done) | skip
  unfold chkE at h
  split at h <;> first | (cases h; done) | contradiction | skip
  next e1 e2 =>
  cases e1; cases e2
  exact ⟨_, _, _, _, rfl, h⟩
theorem inv_mk {N : List Str} {c : Nat} {es : Es} {sc : Scope} {x : Expr} (h : chkE g N (.mk c es) sc x = true) : ∃ nm p xs cp, x = .Call (.Name nm p) xs [] cp ∧ (decide ((g.cls[c]?).map (·.name) = some nm) && glB sc nm && namB nm && !xs.isEmpty && chkEs g N es sc xs) = true := by
  cases x <;> first | (unfold chkE at h; cases h; done) | skip
  unfold chkE at h
  split at h <;> first | (cases h; done) | contradiction | skip
  next e1 e2 =>
  cases e1; cases e2
  exact ⟨_, _, _, _, rfl, h⟩
theorem inv_meth {N : List Str} {m : Mth} {o : E} {es : Es} {sc : Scope} {x : Expr} (h : chkE g N (.meth m o es) sc x = true) : ∃ xo nm ap xs cp, x = .Call (.Attribute xo nm ap) xs [] cp ∧
    (decide (nm = m.nm) && noSup xo && (ap.endLine == cp.line) && decide (xs.length < 29) && chkE g N o sc xo && chkEs g N es sc xs) = true := by
  cases x <;> first | (unfold chkE at h; cases h; done) | skip
  unfold chkE at h
  split at h <;> first | (cases h; done) | contradiction | skip
  next e1 e2 =>
  cases e1; cases e2
  exact ⟨_, _, _, _, _, rfl, h⟩
theorem inv_omt {N : List Str} {c m : Nat} {o : E} {es : Es} {sc : Scope} {x : Expr} (h : chkE g N (.omt c m o es) sc x = true) : ∃ xo nm ap xs cp, x = .Call (.Attribute xo nm ap) xs [] cp ∧
    (decide ((g.cls[c]?).bind (fun z => z.meths[m]?) = some nm) && noSup xo && (ap.endLine == cp.line) && decide (xs.length < 29) && chkE g N o sc xo && chkEs g N es sc xs) = true := by
  cases x <;> first | (unfold chkE at h; cases h; done) | skip
  unfold chkE at h
  split at h <;> first | (cases h; done) | contradiction | skip
  next e1 e2 =>
  cases e1; cases e2
  exact ⟨_, _, _, _, _, rfl, h⟩
theorem blt_mem (b : Blt) : b.nm ∈ bltNames := by
  cases b with
  | list m => exact (by decide +kernel : ("list" : Str) ∈ bltNames)
  | sorti m => exact (by decide +kernel : ("sorted" : Str) ∈ bltNames)
  | sortd m => exact (by decide +kernel : ("sorted" : Str) ∈ bltNames)
  | _ => decide +kernel
theorem foldI {N : List Str} {it : Mm.It} {sc : Scope} {t x : Expr} (h : chkI g N it sc t x = true) (env : PySem.Env) : ∀ v, foldedSetIterable x env v = pure v := by
  cases it with
  | seq e => unfold chkI at h; exact noSet_of (plain_of h) env
  | _ => cases x <;> first | (intro _; rfl) | (unfold chkI at h; cases h)
theorem isTup_ok {t : Expr} (h : isTup t = true) : ∃ es k p, t = .Tuple es k p := by
  cases t <;> first | (cases h; done) | exact ⟨_, _, _, rfl⟩
theorem blk_loc {RX : RXn} {W : WX} {X : Cx} {sc scope : Scope} {own : List (Str × Nat)} (ok : XOk g G cls ecl k RX W X sc) (hb : BlkOk X.N X.env.scope scope own) (s : Shared) (H : Hp) (C : Addr) (cl : List (Str × Addr)) (fp : List Addr) (y : Str) (hy : lclB (relS scope sc) y = true) :
    L2.Loc (X.blk s H scope (compEnvC scope cl C X.env) fp).env.scope y ∧ ((X.blk s H scope (compEnvC scope cl C X.env) fp).fn y = true ∨ (X.blk s H scope (compEnvC scope cl C X.env) fp).env.scope.names.lookup y = some .local) := by
  have q := (ok.blk hb s H C cl fp).lcl hy
  exact ⟨.inl q, .inr q⟩
theorem isYes_of {c : T} (h : isYes c = true) : c = .yes := by
  cases c <;> first | rfl | (cases h)
theorem okC {X : Cx} (c : T) {chk : Expr → Bool} (hk : ∀ y, chk y = true → PT X y (tB' X.K cls (wT G noX c))) {ifs : List Expr} (h : (match ifs with | [] => isYes c | [x] => chk x | _ => false) = true) : PTs X ifs (tB' X.K cls (wT G noX c)) := by
  match ifs, h with
  | [], h =>
    have e := isYes_of h; subst e
    exact PTs.imp pts_nil fun σ H Q ⟨F, S, ρ, R, sr, er, hw, l⟩ => l.now sr hw rfl
  | [x], h => exact pts_one (hk x h)
mutual
theorem okE : ∀ (e : E) {RX : RXn} {W : WX} {X : Cx} {sc : Scope} {x : Expr}, XOk g G cls ecl k RX W X sc → chkE g X.N e sc x = true → PE X x (tE X.K cls (wE G RX e))
  | .lit u, RX, W, X, sc, x, ok, h => by
    cases x <;> first | (unfold chkE at h; cases h; done) | skip
    unfold chkE at h
    exact lit_ok h
  | .var i, RX, W, X, sc, x, ok, h => by
    cases x <;> first | (unfold chkE at h; cases h; done) | skip
    unfold chkE at h
    obtain ⟨h, h3⟩ := bools h
    obtain ⟨h1, h2⟩ := bools h
    obtain ⟨n1, n2⟩ := nam_ok h3
    exact s_var (pe_var (of_decide_eq_true h1) (ok.vis h2) n1 n2)
  | .glb i, RX, W, X, sc, x, ok, h => by
    cases x <;> first | (unfold chkE at h; cases h; done) | skip
    unfold chkE at h
    obtain ⟨h, h3⟩ := bools h
    obtain ⟨h1, h2⟩ := bools h
    obtain ⟨n1, n2⟩ := nam_ok h3
    have hx := of_decide_eq_true h1
    refine ⟨fun pins s σ H Q I ⟨F, S, ρ, R, sr, er, ⟨u, hu, hw⟩, l⟩ => ?_⟩
    obtain ⟨nm, v, w, e1, e2, e3, e4⟩ := ok.gl i u hu
    rw [hx] at e1; cases e1
    exact (pe_glob (ok.gl' h2) e2 e3 n1).run pins s σ H Q I (l.now sr hw (e4 F H))
  | .bin o m a b, RX, W, X, sc, x, ok, h => by
    cases x <;> first | (unfold chkE at h; cases h; done) | skip
    unfold chkE at h
    obtain ⟨h, h3⟩ := bools h
    obtain ⟨h1, h2⟩ := bools h
    have e := of_decide_eq_true h1; subst e
    exact s_bin (bop_ok o m) (okE a ok h2) (okE b ok h3)
  | .neg a, RX, W, X, sc, x, ok, h => by
    cases x <;> first | (unfold chkE at h; cases h; done) | skip
    next op xa p =>
    cases op <;> first | (unfold chkE at h; cases h; done) | skip
    unfold chkE at h
    exact s_neg (okE a ok h)
  | .cmp o a b, RX, W, X, sc, x, ok, h => by
    cases x <;> first | (unfold chkE at h; cases h; done) | skip
    unfold chkE at h
    split at h <;> first | (cases h; done) | contradiction | skip
    next e1 e2 =>
    cases e1; cases e2
    obtain ⟨h, h3⟩ := bools h
    obtain ⟨h1, h2⟩ := bools h
    have e := of_decide_eq_true h1; subst e
    exact s_cmp (cop_ok ok.units o) (cop_mark o (plain_of h3)) (okE a ok h2) (okE b ok h3)
  | .chain o o' a b c, RX, W, X, sc, x, ok, h => by
    cases x <;> first | (unfold chkE at h; cases h; done) | skip
    unfold chkE at h
    split at h <;> first | (cases h; done) | contradiction | skip
    next e1 e2 =>
    cases e1; cases e2
    obtain ⟨h, h5⟩ := bools h
    obtain ⟨h, h4⟩ := bools h
    obtain ⟨h, h3⟩ := bools h
    obtain ⟨h1, h2⟩ := bools h
    have e := of_decide_eq_true h1; subst e
    have e := of_decide_eq_true h2; subst e
    exact s_chain (cop_ok ok.units o) (cop_ok ok.units o') (cop_mark o' (plain_of h5)) (okE a ok h3) (okE b ok h4) (okE c ok h5)
  | .ands es, RX, W, X, sc, x, ok, h => by
    cases x <;> first | (unfold chkE at h; cases h; done) | skip
    next op xs p =>
    cases op <;> first | (unfold chkE at h; cases h; done) | skip
    unfold chkE at h
    exact okAnds es ok h
  | .ors es, RX, W, X, sc, x, ok, h => by
    cases x <;> first | (unfold chkE at h; cases h; done) | skip
    next op xs p =>
    cases op <;> first | (unfold chkE at h; cases h; done) | skip
    unfold chkE at h
    exact okOrs es ok h
  | .nt a, RX, W, X, sc, x, ok, h => by
    cases x <;> first | (unfold chkE at h; cases h; done) | skip
    next op xs p =>
    cases op <;> first | (unfold chkE at h; cases h; done) | skip
    unfold chkE at h
    exact s_not (okE a ok h)
  | .ife t a b, RX, W, X, sc, x, ok, h => by
    cases x <;> first | (unfold chkE at h; cases h; done) | skip
    unfold chkE at h
    obtain ⟨h, h3⟩ := bools h
    obtain ⟨h1, h2⟩ := bools h
    exact s_ife (okT t ok h1) (okE a ok h2) (okE b ok h3)
  | .tup es, RX, W, X, sc, x, ok, h => by
    cases x <;> first | (unfold chkE at h; cases h; done) | skip
    unfold chkE at h
    exact s_tup (okEs es ok h)
  | .lst m es, RX, W, X, sc, x, ok, h => by
    cases x <;> first | (unfold chkE at h; cases h; done) | skip
    unfold chkE at h
    exact s_lst (okEs es ok h)
  | .slc m a lo hi, RX, W, X, sc, x, ok, h => by
    cases x <;> first | (unfold chkE at h; cases h; done) | skip
    unfold chkE at h
    split at h <;> first | (cases h; done) | contradiction | skip
    next e1 e2 =>
    cases e1; cases e2
    obtain ⟨h, h3⟩ := bools h
    obtain ⟨h1, h2⟩ := bools h
    exact s_slc (okE a ok h1) (okO lo ok h2) (okO hi ok h3)
  | .idx a i, RX, W, X, sc, x, ok, h => by
    cases x <;> first | (unfold chkE at h; cases h; done) | skip
    unfold chkE at h
    obtain ⟨h1, h2⟩ := bools h
    exact s_idx (by have := ok.units; omega) (okE a ok h1) (okE i ok h2) (plainIx_of (plain_of h2))
  | .lc m own gt it c e, RX, W, X, sc, x, ok, h => by
    cases x <;> first | (unfold chkE at h; cases h; done) | skip
    unfold chkE at h
    split at h <;> first | (cases h; done) | contradiction | skip
    next e1 e2 =>
    cases e1; cases e2
    obtain ⟨h, h6⟩ := bools h
    obtain ⟨h, h5⟩ := bools h
    obtain ⟨h, h4⟩ := bools h
    obtain ⟨h, h3⟩ := bools h
    obtain ⟨h1, h2⟩ := bools h
    have hb := blkOk_by h1
    rw [← ok.sc] at hb
    refine s_lc (of_decide_eq_true h4) (pe_lc ok.calm ok.nd (okI it ok h2) hb (fun s H C cl fp => tg_ok (X := X.blk s H _ (compEnvC _ cl C X.env) fp) ok.nd ok.calm (fun y hy => ?_) h3)
      (fun s H C cl fp => okC c (fun y hy => okT c (ok.blk hb s H C cl fp) hy) h5) (fun s H C cl fp => okE e (ok.blk hb s H C cl fp) h6) (foldI h2 _))
    have q := (ok.blk hb s H C cl fp).lcl hy
    exact ⟨.inl q, .inr q⟩
  | .isi a t, RX, W, X, sc, x, ok, h => by
    cases x <;> first | (unfold chkE at h; cases h; done) | skip
    unfold chkE at h
    split at h <;> first | (cases h; done) | contradiction | skip
    next e1 e2 =>
    cases e1; cases e2
    obtain ⟨h, h5⟩ := bools h
    obtain ⟨h, h4⟩ := bools h
    obtain ⟨h, h3⟩ := bools h
    obtain ⟨h1, h2⟩ := bools h
    have e := of_decide_eq_true h1; subst e
    obtain ⟨b1, b2, b3, b4⟩ := tyB_ok h4
    exact s_isi (ok.gl' h2) (ok.blt _ (by decide +kernel)) (ok.gl' h3) (ok.blt _ b2) b1 b3 b4 (okE a ok h5) (star_plain (plain_of h5) _ _) rfl
  | .call f es, RX, W, X, sc, x, ok, h => by
    obtain ⟨nm, p, xs, cp, rfl, hh⟩ := inv_call h
    have h := hh
    obtain ⟨h, h4⟩ := bools h
    obtain ⟨h, h3⟩ := bools h
    obtain ⟨h1, h2⟩ := bools h
    have hx := of_decide_eq_true h1
    refine ⟨fun pins s σ H Q I ⟨F, S, ρ, R, sr, er, ⟨sp, hsp, hw⟩, l⟩ => ?_⟩
    obtain ⟨nm', fa, e1, ⟨fd, ps, Fo, hb⟩, e3, e4⟩ := ok.fn f sp hsp
    rw [hx] at e1; cases e1
    cases xs with
    | nil =>
      cases es with
      | cons e es => unfold chkEs at h4; cases h4
      | nil => exact (s_call0 ok.tk ok.lx Fo ok.grd (ok.room.mono (Nat.le_succ _)) (ok.gl' h2) e3 e4 hb (nam_ok h3).1).run pins s σ H Q I ⟨F, S, ρ, R, sr, er, hw, l⟩
    | cons x xs =>
      have ha := okEs es ok h4
      cases es with
      | nil => unfold chkEs at h4; cases h4
      | cons e es =>
        unfold chkEs at h4
        obtain ⟨h5, h6⟩ := bools h4
        exact (s_call ok.tk ok.lx Fo ok.grd (ok.room.mono (Nat.le_succ _)) (ok.gl' h2) e3 e4 hb ha (nam_ok h3).1 (star_plain (plain_of h5) _ _) (noany (star_all h6 _))).run pins s σ H Q I ⟨F, S, ρ, R, sr, er, hw, l⟩
  | .blt b es, RX, W, X, sc, x, ok, h => by
    obtain ⟨nm, p, xs, cp, rfl, hh⟩ := inv_blt h
    have h := hh
    obtain ⟨h, h4⟩ := bools h
    obtain ⟨h, h3⟩ := bools h
    obtain ⟨h1, h2⟩ := bools h
    have e := of_decide_eq_true h1; subst e
    cases xs with
    | nil => cases h3
    | cons x xs =>
      have ha := okEs es ok h4
      cases es with
      | nil => unfold chkEs at h4; cases h4
      | cons e es =>
        unfold chkEs at h4
        obtain ⟨h5, h6⟩ := bools h4
        exact s_blt b ok.calm (ok.gl' h2) (ok.blt _ (blt_mem b)) ha (star_plain (plain_of h5) _ _) (noany (star_all h6 _))
  | .mk c es, RX, W, X, sc, x, ok, h => by
    obtain ⟨nm, p, xs, cp, rfl, hh⟩ := inv_mk h
    have h := hh
    obtain ⟨h, h5⟩ := bools h
    obtain ⟨h, h4⟩ := bools h
    obtain ⟨h, h3⟩ := bools h
    obtain ⟨h1, h2⟩ := bools h
    have hx := of_decide_eq_true h1
    refine ⟨fun pins s σ H Q I ⟨F, S, ρ, R, sr, er, ⟨cv, hcv, hw⟩, l⟩ => ?_⟩
    obtain ⟨cn, C, fi, e1, e2, M, ⟨fd, ps, Fo, hb⟩, e4, _⟩ := ok.cl c cv hcv
    rw [e1] at hx
    cases (show some cn.name = some nm from hx)
    cases xs with
    | nil => cases h4
    | cons x xs =>
      have ha := okEs es ok h5
      cases es with
      | nil => unfold chkEs at h5; cases h5
      | cons e es =>
        unfold chkEs at h5
        obtain ⟨h6, h7⟩ := bools h5
        exact (s_mk e2 M Fo.ok ok.room (ok.gl' h2) e4 hb (ok.pass X rfl rfl) ha (nam_ok h3).1 (star_plain (plain_of h6) _ _) (noany (star_all h7 _))).run pins s σ H Q I ⟨F, S, ρ, R, sr, er, hw, l⟩
  | .meth m o es, RX, W, X, sc, x, ok, h => by
    obtain ⟨xo, nm, ap, xs, cp, rfl, hh⟩ := inv_meth h
    have h := hh
    obtain ⟨h, h6⟩ := bools h
    obtain ⟨h, h5⟩ := bools h
    obtain ⟨h, h4⟩ := bools h
    obtain ⟨h, h3⟩ := bools h
    obtain ⟨h1, h2⟩ := bools h
    have e := of_decide_eq_true h1; subst e
    cases xs with
    | nil =>
      cases es with
      | cons e es => unfold chkEs at h6; cases h6
      | nil => exact s_mth0 m (okE o ok h5) (base_plain h2 _ _) h3
    | cons x xs =>
      have ha := okEs es ok h6
      have hst := star_all h6 X.env
      cases es with
      | nil => unfold chkEs at h6; cases h6
      | cons e es =>
        unfold chkEs at h6
        obtain ⟨h7, h8⟩ := bools h6
        exact s_mth m (okE o ok h5) ha (base_plain h2 _ _) h3 (fewOk hst (of_decide_eq_true h4)) (star_plain (plain_of h7) _ _) (noany (star_all h8 _))
  | .omt c m o es, RX, W, X, sc, x, ok, h => by
    obtain ⟨xo, nm, ap, xs, cp, rfl, hh⟩ := inv_omt h
    have h := hh
    obtain ⟨h, h6⟩ := bools h
    obtain ⟨h, h5⟩ := bools h
    obtain ⟨h, h4⟩ := bools h
    obtain ⟨h, h3⟩ := bools h
    obtain ⟨h1, h2⟩ := bools h
    have hx := of_decide_eq_true h1
    refine ⟨fun pins s σ H Q I ⟨F, S, ρ, R, sr, er, ⟨cv, sp, hcv, hsp, hw⟩, l⟩ => ?_⟩
    obtain ⟨cn, C, fi, e1, e2, _, _, _, hm⟩ := ok.cl c cv hcv
    obtain ⟨nm', f, e5, M, ⟨fd, ps, Fo, hb⟩, hat⟩ := hm m sp hsp
    rw [e1] at hx
    rw [show cn.meths[m]? = some nm from hx] at e5
    cases e5
    have cl := (ok.at_ c C nm e2).1
    cases xs with
    | nil =>
      cases es with
      | cons e es => unfold chkEs at h6; cases h6
      | nil => exact (s_omt0 e2 cl M hat ok.tk ok.lx Fo.ok (ok.room.mono (Nat.le_succ _)) hb (okE o ok h5) (base_plain h2 _ _) h3).run pins s σ H Q I ⟨F, S, ρ, R, sr, er, hw, l⟩
    | cons x xs =>
      have ha := okEs es ok h6
      have hst := star_all h6 X.env
      cases es with
      | nil => unfold chkEs at h6; cases h6
      | cons e es =>
        unfold chkEs at h6
        obtain ⟨h7, h8⟩ := bools h6
        exact (s_omt e2 cl M hat ok.tk ok.lx Fo.ok (ok.room.mono (Nat.le_succ _)) hb (okE o ok h5) ha (star_plain (plain_of h7) _ _) (noany (star_all h8 _)) (base_plain h2 _ _) h3 (fewOk hst (of_decide_eq_true h4))).run pins s σ H Q I ⟨F, S, ρ, R, sr, er, hw, l⟩
  | .fld o f, RX, W, X, sc, x, ok, h => by
    cases x <;> first | (unfold chkE at h; cases h; done) | skip
    unfold chkE at h
    obtain ⟨h, h3⟩ := bools h
    obtain ⟨h1, h2⟩ := bools h
    have e := of_decide_eq_true h1; subst e
    exact s_fld (fun c C hC => ok.at_ c C _ hC) (okE o ok h3) (base_plain h2 _ _)
  | .fstr es, RX, W, X, sc, x, ok, h => by
    cases x <;> first | (unfold chkE at h; cases h; done) | skip
    unfold chkE at h
    next xs p =>
    obtain ⟨h1, h2⟩ := bools h
    have h1 := of_decide_eq_true h1
    have hf := okJ es ok h2
    match xs, h1, hf with
    | a :: b :: r, _, hf => exact s_fstr hf
  | .fmt a, RX, W, X, sc, x, ok, h => by
    cases x <;> first | (unfold chkE at h; cases h; done) | skip
    unfold chkE at h
    split at h <;> first | (cases h; done) | contradiction | skip
    next e1 e2 =>
    cases e1; cases e2
    exact s_fmt (okE a ok h)
  | .frz a, RX, W, X, sc, x, ok, h => by
    unfold chkE at h
    exact s_frz (okE a ok h)
  | .rev m a, RX, W, X, sc, x, ok, h => by
    cases x <;> first | (unfold chkE at h; cases h; done) | skip
    unfold chkE at h
    split at h <;> first | (cases h; done) | contradiction | skip
    next e1 e2 =>
    cases e1; cases e2
    exact s_rev (okE a ok h)
  | .revT a, RX, W, X, sc, x, ok, h => by
    cases x <;> first | (unfold chkE at h; cases h; done) | skip
    unfold chkE at h
    split at h <;> first | (cases h; done) | contradiction | skip
    next e1 e2 =>
    cases e1; cases e2
    exact s_revT (okE a ok h)
  | .repr a, RX, W, X, sc, x, ok, h => by
    cases x <;> first | (unfold chkE at h; cases h; done) | skip
    unfold chkE at h
    split at h <;> first | (cases h; done) | contradiction | skip
    next e1 e2 =>
    cases e1; cases e2
    obtain ⟨h, h3⟩ := bools h
    obtain ⟨h1, h2⟩ := bools h
    have e := of_decide_eq_true h1; subst e
    exact s_repr ok.grd (by have := ok.room.un; omega) (ok.gl' h2) (ok.blt _ (by decide +kernel)) (okE a ok h3) (star_plain (plain_of h3) _ _)
  | .dct1 a b, RX, W, X, sc, x, ok, h => by
    cases x <;> first | (unfold chkE at h; cases h; done) | skip
    unfold chkE at h
    split at h <;> first | (cases h; done) | contradiction | skip
    next e1 e2 =>
    cases e1; cases e2
    obtain ⟨h1, h2⟩ := bools h
    exact s_dct1 (okE a ok h1) (okE b ok h2)
  | .gst a, RX, W, X, sc, x, ok, h => by
    unfold chkE at h
    exact s_gst (okE a ok h)
  | .dct0, RX, W, X, sc, x, ok, h => by
    cases x <;> first | (unfold chkE at h; cases h; done) | skip
    unfold chkE at h
    split at h <;> first | (cases h; done) | contradiction | skip
    next e1 e2 =>
    cases e1; cases e2
    exact s_dct0
  | .dnk0, RX, W, X, sc, x, ok, h => by
    cases x <;> first | (unfold chkE at h; cases h; done) | skip
    unfold chkE at h
    split at h <;> first | (cases h; done) | contradiction | skip
    next e1 e2 =>
    cases e1; cases e2
    exact s_dnk0
  | .dget o k d, RX, W, X, sc, x, ok, h => by
    cases x <;> first | (unfold chkE at h; cases h; done) | skip
    unfold chkE at h
    split at h <;> first | (cases h; done) | contradiction | skip
    next e1 e2 =>
    cases e1; cases e2
    obtain ⟨h, h6⟩ := bools h
    obtain ⟨h, h5⟩ := bools h
    obtain ⟨h, h4⟩ := bools h
    obtain ⟨h, h3⟩ := bools h
    obtain ⟨h1, h2⟩ := bools h
    have e := of_decide_eq_true h1; subst e
    have hst : ∀ env : PySem.Env, starEach [_, _] env = [(false, eval _ env), (false, eval _ env)] := fun env => by rw [star_plain (plain_of h5), star_plain (plain_of h6)]; rfl
    exact s_dget (by have := ok.units; omega) (okE o ok h4) (okE k ok h5) (okE d ok h6) ⟨base_plain h2 _ _, by rw [hst]; rfl, h3, by rw [hst]; rfl⟩
  | .srts m a, RX, W, X, sc, x, ok, h => by
    cases x <;> first | (unfold chkE at h; cases h; done) | skip
    unfold chkE at h
    split at h <;> first | (cases h; done) | contradiction | skip
    next e1 e2 =>
    cases e1; cases e2
    obtain ⟨h, h5⟩ := bools h
    obtain ⟨h, h4⟩ := bools h
    obtain ⟨h, h3⟩ := bools h
    obtain ⟨h1, h2⟩ := bools h
    have e := of_decide_eq_true h1; subst e
    have e := of_decide_eq_true h2; subst e
    exact s_srts ok.calm (ok.gl' h3) (ok.blt _ (by decide +kernel)) (ok.gl' h4) (ok.blt _ (by decide +kernel)) (okE a ok h5) (star_plain (plain_of h5) _ _)
  | .srtsc m own gt it c e, RX, W, X, sc, x, ok, h => by
    cases x <;> first | (unfold chkE at h; cases h; done) | skip
    unfold chkE at h
    split at h <;> first | (cases h; done) | contradiction | skip
    next e1 e2 =>
    cases e1; cases e2
    obtain ⟨h, h8⟩ := bools h
    obtain ⟨h, h7⟩ := bools h
    obtain ⟨h, h6⟩ := bools h
    obtain ⟨h, h5⟩ := bools h
    obtain ⟨h, h4⟩ := bools h
    obtain ⟨h, h3⟩ := bools h
    obtain ⟨h1, h2⟩ := bools h
    have e1 := of_decide_eq_true h1; subst e1
    have hb := blkOk_by h3
    rw [← ok.sc] at hb
    refine s_srtsc ok.calm (ok.gl' h2) (ok.blt _ (by decide +kernel)) (of_decide_eq_true h6) (pe_scI ok.calm ok.nd (okI it ok h4) hb (fun s H C cl fp => tg_ok (X := X.blk s H _ (compEnvC _ cl C X.env) fp) ok.nd ok.calm (fun y hy => ?_) h5)
      (fun s H C cl fp => okC c (fun y hy => okT c (ok.blk hb s H C cl fp) hy) h7) (fun s H C cl fp => okE e (ok.blk hb s H C cl fp) h8) (foldI h4 _)) rfl
    have q := (ok.blk hb s H C cl fp).lcl hy
    exact ⟨.inl q, .inr q⟩
  | .lc2 m own vs gt it c gt1 it1 c1 e, RX, W, X, sc, x, ok, h => by
    cases x <;> first | (unfold chkE at h; cases h; done) | skip
    unfold chkE at h
    split at h <;> first | (cases h; done) | contradiction | skip
    next e1 e2 =>
    cases e1; cases e2
    obtain ⟨h, h11⟩ := bools h
    obtain ⟨h, h10⟩ := bools h
    obtain ⟨h, h9⟩ := bools h
    obtain ⟨h, h8⟩ := bools h
    obtain ⟨h, h7⟩ := bools h
    obtain ⟨h, h6⟩ := bools h
    obtain ⟨h, h5⟩ := bools h
    obtain ⟨h, h4⟩ := bools h
    obtain ⟨h, h3⟩ := bools h
    obtain ⟨h1, h2⟩ := bools h
    have hb := blkOk_by h1
    rw [← ok.sc] at hb
    refine (pe_lc2 ok.calm ok.nd (okI it ok h2) hb (of_decide_eq_true h6) (fun s H C cl fp => tg_ok (X := X.blk s H _ (compEnvC _ cl C X.env) fp) ok.nd ok.calm (blk_loc ok hb s H C cl fp) h3)
      (fun s H C cl fp => okC c (fun y hy => okT c (ok.blk hb s H C cl fp) hy) h5) (fun s H C cl fp => okI it1 (ok.blk hb s H C cl fp) h7) (fun s H C cl fp => tg_ok (X := X.blk s H _ (compEnvC _ cl C X.env) fp) ok.nd ok.calm (blk_loc ok hb s H C cl fp) h8)
      (fun s H C cl fp => okC c1 (fun y hy => okT c1 (ok.blk hb s H C cl fp) hy) h10) (fun s H C cl fp => okE e (ok.blk hb s H C cl fp) h11) (foldI h2 _) (fun env => foldI h7 env)).imp fun σ H Q hh => lc2_imp (of_decide_eq_true h4) (of_decide_eq_true h9) σ H Q hh
theorem okEs : ∀ (es : Es) {RX : RXn} {W : WX} {X : Cx} {sc : Scope} {xs : List Expr}, XOk g G cls ecl k RX W X sc → chkEs g X.N es sc xs = true → PA X xs (tA X.K cls (wEs G RX es))
  | .nil, RX, W, X, sc, [], ok, h => s_nil
  | .cons e es, RX, W, X, sc, x :: xs, ok, h => by
    unfold chkEs at h
    obtain ⟨h1, h2⟩ := bools h
    exact s_cons (okE e ok h1) (okEs es ok h2) (star_plain (plain_of h1) xs _)
  | .nil, _, _, _, _, _ :: _, _, h => by unfold chkEs at h; cases h
  | .cons _ _, _, _, _, _, [], _, h => by unfold chkEs at h; cases h
theorem okJ : ∀ (es : Es) {RX : RXn} {W : WX} {X : Cx} {sc : Scope} {xs : List Expr}, XOk g G cls ecl k RX W X sc → chkEs g X.N es sc xs = true → PF X cls xs (wJ G RX es)
  | .nil, RX, W, X, sc, [], ok, h => .nil
  | .cons e es, RX, W, X, sc, x :: xs, ok, h => by
    unfold chkEs at h
    obtain ⟨h1, h2⟩ := bools h
    exact .cons (okE e ok h1) (okJ es ok h2)
  | .nil, _, _, _, _, _ :: _, _, h => by unfold chkEs at h; cases h
  | .cons _ _, _, _, _, _, [], _, h => by unfold chkEs at h; cases h
theorem okAnds : ∀ (es : Es) {RX : RXn} {W : WX} {X : Cx} {sc : Scope} {xs : List Expr} {p : Pos}, XOk g G cls ecl k RX W X sc → chkEs g X.N es sc xs = true → PE X (.BoolOp .And xs p) (tE X.K cls (wAnds G RX es))
  | .nil, RX, W, X, sc, xs, p, ok, h => ⟨fun _ _ _ _ _ _ ⟨_, _, _, _, _, _, hw, _⟩ => hw.elim⟩
  | .cons e .nil, RX, W, X, sc, [x], p, ok, h => by
    unfold chkEs at h
    exact pe_one (okE e ok (bools h).1)
  | .cons e (.cons e' es), RX, W, X, sc, x :: y :: xs, p, ok, h => by
    unfold chkEs at h
    obtain ⟨h1, h2⟩ := bools h
    exact s_and (okE e ok h1) (okAnds (.cons e' es) ok h2)
  | .cons _ .nil, _, _, _, _, [], _, _, h => by unfold chkEs at h; cases h
  | .cons _ .nil, _, _, _, _, _ :: _ :: _, _, _, h => by
    unfold chkEs at h
    have h := (bools h).2
    unfold chkEs at h; cases h
  | .cons _ (.cons _ _), _, _, _, _, [], _, _, h => by unfold chkEs at h; cases h
  | .cons _ (.cons _ _), _, _, _, _, [_], _, _, h => by
    unfold chkEs at h
    have h := (bools h).2
    unfold chkEs at h; cases h
theorem okOrs : ∀ (es : Es) {RX : RXn} {W : WX} {X : Cx} {sc : Scope} {xs : List Expr} {p : Pos}, XOk g G cls ecl k RX W X sc → chkEs g X.N es sc xs = true → PE X (.BoolOp .Or xs p) (tE X.K cls (wOrs G RX es))
  | .nil, RX, W, X, sc, xs, p, ok, h => ⟨fun _ _ _ _ _ _ ⟨_, _, _, _, _, _, hw, _⟩ => hw.elim⟩
  | .cons e .nil, RX, W, X, sc, [x], p, ok, h => by
    unfold chkEs at h
    exact pe_one (okE e ok (bools h).1)
  | .cons e (.cons e' es), RX, W, X, sc, x :: y :: xs, p, ok, h => by
    unfold chkEs at h
    obtain ⟨h1, h2⟩ := bools h
    exact s_or (okE e ok h1) (okOrs (.cons e' es) ok h2)
  | .cons _ .nil, _, _, _, _, [], _, _, h => by unfold chkEs at h; cases h
  | .cons _ .nil, _, _, _, _, _ :: _ :: _, _, _, h => by
    unfold chkEs at h
    have h := (bools h).2
    unfold chkEs at h; cases h
  | .cons _ (.cons _ _), _, _, _, _, [], _, _, h => by unfold chkEs at h; cases h
  | .cons _ (.cons _ _), _, _, _, _, [_], _, _, h => by
    unfold chkEs at h
    have h := (bools h).2
    unfold chkEs at h; cases h
theorem okT : ∀ (t : T) {RX : RXn} {W : WX} {X : Cx} {sc : Scope} {x : Expr}, XOk g G cls ecl k RX W X sc → chkT g X.N t sc x = true → PT X x (tB' X.K cls (wT G RX t))
  | .val e, RX, W, X, sc, x, ok, h => by
    unfold chkT at h
    obtain ⟨h1, h2⟩ := bools h
    exact s_val (okE e ok h2) (val_of h1 (plain_of h2) _)
  | .tru e, RX, W, X, sc, x, ok, h => by
    unfold chkT at h
    obtain ⟨h1, h2⟩ := bools h
    exact s_tru (okE e ok h2) (val_of h1 (plain_of h2) _)
  | .cmp o a b, RX, W, X, sc, x, ok, h => by
    cases x <;> first | (unfold chkT at h; cases h; done) | skip
    unfold chkT at h
    split at h <;> first | (cases h; done) | contradiction | skip
    next e1 e2 =>
    cases e1; cases e2
    obtain ⟨h, h3⟩ := bools h
    obtain ⟨h1, h2⟩ := bools h
    have e := of_decide_eq_true h1; subst e
    exact s_cmpT (cop_ok ok.units o) (cop_mark o (plain_of h3)) (okE a ok h2) (okE b ok h3)
  | .chain o o' a b c, RX, W, X, sc, x, ok, h => by
    cases x <;> first | (unfold chkT at h; cases h; done) | skip
    unfold chkT at h
    split at h <;> first | (cases h; done) | contradiction | skip
    next e1 e2 =>
    cases e1; cases e2
    obtain ⟨h, h5⟩ := bools h
    obtain ⟨h, h4⟩ := bools h
    obtain ⟨h, h3⟩ := bools h
    obtain ⟨h1, h2⟩ := bools h
    have e := of_decide_eq_true h1; subst e
    have e := of_decide_eq_true h2; subst e
    exact s_chainT (cop_ok ok.units o) (cop_ok ok.units o') (cop_mark o' (plain_of h5)) (okE a ok h3) (okE b ok h4) (okE c ok h5)
  | .ands ts, RX, W, X, sc, x, ok, h => by
    cases x <;> first | (unfold chkT at h; cases h; done) | skip
    next op xs p =>
    cases op <;> first | (unfold chkT at h; cases h; done) | skip
    unfold chkT at h
    exact (okTAnds ts ok h).pt
  | .ors ts, RX, W, X, sc, x, ok, h => by
    cases x <;> first | (unfold chkT at h; cases h; done) | skip
    next op xs p =>
    cases op <;> first | (unfold chkT at h; cases h; done) | skip
    unfold chkT at h
    exact (okTOrs ts ok h).pt
  | .nt t, RX, W, X, sc, x, ok, h => by
    cases x <;> first | (unfold chkT at h; cases h; done) | skip
    next op xs p =>
    cases op <;> first | (unfold chkT at h; cases h; done) | skip
    unfold chkT at h
    exact s_tnot (okT t ok h)
  | .yes, RX, W, X, sc, x, ok, h => by unfold chkT at h; cases h
theorem okTAnds : ∀ (ts : Ts) {RX : RXn} {W : WX} {X : Cx} {sc : Scope} {xs : List Expr} {p : Pos}, XOk g G cls ecl k RX W X sc → chkTs g X.N ts sc xs = true → PW X (.BoolOp .And xs p) (tB' X.K cls (wTAnds G RX ts))
  | .one t, RX, W, X, sc, [x], p, ok, h => by
    unfold chkTs at h
    exact s_tand1 (okT t ok h)
  | .cons t ts, RX, W, X, sc, x :: y :: xs, p, ok, h => by
    unfold chkTs at h
    obtain ⟨h1, h2⟩ := bools h
    exact s_tand (okT t ok h1) (okTAnds ts ok h2)
  | .one _, _, _, _, _, [], _, _, h => by unfold chkTs at h; cases h
  | .one _, _, _, _, _, _ :: _ :: _, _, _, h => by unfold chkTs at h; cases h
  | .cons _ _, _, _, _, _, [], _, _, h => by unfold chkTs at h; cases h
  | .cons _ _, _, _, _, _, [_], _, _, h => by unfold chkTs at h; cases h
theorem okTOrs : ∀ (ts : Ts) {RX : RXn} {W : WX} {X : Cx} {sc : Scope} {xs : List Expr} {p : Pos}, XOk g G cls ecl k RX W X sc → chkTs g X.N ts sc xs = true → PW X (.BoolOp .Or xs p) (tB' X.K cls (wTOrs G RX ts))
  | .one t, RX, W, X, sc, [x], p, ok, h => by
    unfold chkTs at h
    exact s_tor1 (okT t ok h)
  | .cons t ts, RX, W, X, sc, x :: y :: xs, p, ok, h => by
    unfold chkTs at h
    obtain ⟨h1, h2⟩ := bools h
    exact s_tor (okT t ok h1) (okTOrs ts ok h2)
  | .one _, _, _, _, _, [], _, _, h => by unfold chkTs at h; cases h
  | .one _, _, _, _, _, _ :: _ :: _, _, _, h => by unfold chkTs at h; cases h
  | .cons _ _, _, _, _, _, [], _, _, h => by unfold chkTs at h; cases h
  | .cons _ _, _, _, _, _, [_], _, _, h => by unfold chkTs at h; cases h
theorem okI : ∀ (it : Mm.It) {RX : RXn} {W : WX} {X : Cx} {sc : Scope} {x : Expr} {tg : Expr}, XOk g G cls ecl k RX W X sc → chkI g X.N it sc tg x = true → PI X tg x (tI X.K cls (wI G RX it))
  | .seq e, RX, W, X, sc, x, tg, ok, h => by
    unfold chkI at h
    exact s_seq (okE e ok h)
  | .rng1 a, RX, W, X, sc, x, tg, ok, h => by
    cases x <;> first | (unfold chkI at h; cases h; done) | skip
    unfold chkI at h
    split at h <;> first | (cases h; done) | contradiction | skip
    next e1 e2 =>
    cases e1; cases e2
    obtain ⟨h, h3⟩ := bools h
    obtain ⟨h1, h2⟩ := bools h
    have e := of_decide_eq_true h1; subst e
    exact s_rng1 (ok.gl' h2) (ok.blt _ (by decide +kernel)) (okE a ok h3) (star_plain (plain_of h3) _ _)
  | .rng2 a b, RX, W, X, sc, x, tg, ok, h => by
    cases x <;> first | (unfold chkI at h; cases h; done) | skip
    unfold chkI at h
    split at h <;> first | (cases h; done) | contradiction | skip
    next e1 e2 =>
    cases e1; cases e2
    obtain ⟨h, h4⟩ := bools h
    obtain ⟨h, h3⟩ := bools h
    obtain ⟨h1, h2⟩ := bools h
    have e := of_decide_eq_true h1; subst e
    exact s_rng2 (ok.gl' h2) (ok.blt _ (by decide +kernel)) (okE a ok h3) (okE b ok h4) (by rw [star_plain (plain_of h3), star_plain (plain_of h4)]; rfl) (star_plain (plain_of h4) _ _)
  | .rngD a b, RX, W, X, sc, x, tg, ok, h => by
    cases x <;> first | (unfold chkI at h; cases h; done) | skip
    unfold chkI at h
    split at h <;> first | (cases h; done) | contradiction | skip
    next e1 e2 =>
    cases e1; cases e2
    obtain ⟨h, h4⟩ := bools h
    obtain ⟨h, h3⟩ := bools h
    obtain ⟨h1, h2⟩ := bools h
    have e := of_decide_eq_true h1; subst e
    exact s_rngD (ok.gl' h2) (ok.blt _ (by decide +kernel)) (okE a ok h3) (okE b ok h4) (star_plain (plain_of h3) _ _) (star_plain (plain_of h4) _ _)
  | .rvs a, RX, W, X, sc, x, tg, ok, h => by
    cases x <;> first | (unfold chkI at h; cases h; done) | skip
    unfold chkI at h
    split at h <;> first | (cases h; done) | contradiction | skip
    next e1 e2 =>
    cases e1; cases e2
    obtain ⟨h, h3⟩ := bools h
    obtain ⟨h1, h2⟩ := bools h
    have e := of_decide_eq_true h1; subst e
    exact s_rvs (ok.gl' h2) (ok.blt _ (by decide +kernel)) (okE a ok h3) (star_plain (plain_of h3) _ _)
  | .enum a, RX, W, X, sc, x, tg, ok, h => by
    cases x <;> first | (unfold chkI at h; cases h; done) | skip
    unfold chkI at h
    split at h <;> first | (cases h; done) | contradiction | skip
    next e1 e2 =>
    cases e1; cases e2
    obtain ⟨h, h4⟩ := bools h
    obtain ⟨h, h3⟩ := bools h
    obtain ⟨h1, h2⟩ := bools h
    have e := of_decide_eq_true h2; subst e
    obtain ⟨_, _, _, rfl⟩ := isTup_ok h1
    exact s_enum (ok.gl' h3) (ok.blt _ (by decide +kernel)) (okE a ok h4) (star_plain (plain_of h4) _ _)
  | .items a, RX, W, X, sc, x, tg, ok, h => by
    cases x <;> first | (unfold chkI at h; cases h; done) | skip
    unfold chkI at h
    split at h <;> first | (cases h; done) | contradiction | skip
    next e1 e2 =>
    cases e1; cases e2
    obtain ⟨h, h5⟩ := bools h
    obtain ⟨h, h4⟩ := bools h
    obtain ⟨h, h3⟩ := bools h
    obtain ⟨h1, h2⟩ := bools h
    have e := of_decide_eq_true h2; subst e
    obtain ⟨_, _, _, rfl⟩ := isTup_ok h1
    exact s_items (okE a ok h5) (base_plain h3 _ _) h4
theorem okO : ∀ (o : O) {RX : RXn} {W : WX} {X : Cx} {sc : Scope} {x : Option Expr}, XOk g G cls ecl k RX W X sc → chkO g X.N o sc x = true → PO X x (tO X.K cls (wO G RX o))
  | .no, RX, W, X, sc, none, ok, h => s_po
  | .so e, RX, W, X, sc, some x, ok, h => by
    unfold chkO at h
    exact s_ps (okE e ok h)
  | .no, _, _, _, _, some _, _, h => by unfold chkO at h; cases h
  | .so _, _, _, _, _, none, _, h => by unfold chkO at h; cases h
end
end
end Mm
/-! MmL: statements, and a def by its body -/
namespace Mm
open PySem PySem.Spec PyProof.Rows L2
section
variable {g : GN} {G : GV} {cls : Anc} {ecl : List Addr} {k : Nat} {RX : RXn} {W : WX}
/-- what stays from a def's beginning on -/
def XFn (X : Cx) : Prop := (∀ y, X.fn y = true) ∧ X.stack = X.env :: X.outer ∧ X.env.frame = some X.env.locals
theorem tgs_ok {X : Cx} {sc : Scope} (ok : XOk g G cls ecl k RX W X sc) (hf : XFn X) {t : Tg} {x : Expr} (h : chkTg X.N (locB sc) t x = true) : PG X x (gOf X.K t) :=
  tg_ok ok.nd ok.calm (fun y hy => ⟨ok.loc hy, .inl (hf.1 y)⟩) h
theorem noComp_of {x : Expr} (h : plainX x = true) (h' : ∀ a b c d, x ≠ .ListComp a b c d) : noComp x = true := by
  cases x <;> first | rfl | (cases h; done) | (exact absurd rfl (h' _ _ _ _))
theorem inv_lc2 {N : List Str} {m : Bool} {own : List (Str × Nat)} {gt : Tg} {it : Mm.It} {c : T} {e : E} {sc : Scope} {xe : Expr} {b : List Comprehension} {scope : Scope} {d : Pos} (h : chkE g N (.lc m own gt it c e) sc (.ListComp xe b scope d) = true) : ∃ xt xi ifs, b = [⟨xt, xi, ifs, 0⟩] ∧
    (blkC N sc scope own && chkI g N it sc xt xi && chkTg N (lclB (relS scope sc)) gt xt && decide (∀ i ∈ gt.slots, i ∈ own.map (·.2)) && (match ifs with | [] => isYes c | [x] => chkT g N c (relS scope sc) x | _ => false) && chkE g N e (relS scope sc) xe) = true := by
  unfold chkE at h
  split at h <;> first | (cases h; done) | contradiction | skip
  next e1 e2 =>
  cases e1; cases e2
  exact ⟨_, _, _, rfl, h⟩
theorem inv_lc3 {N : List Str} {m : Bool} {own : List (Str × Nat)} {vs : List Nat} {gt gt1 : Tg} {it it1 : Mm.It} {c c1 : T} {e : E} {sc : Scope} {xe : Expr} {b : List Comprehension} {scope : Scope} {d : Pos} (h : chkE g N (.lc2 m own vs gt it c gt1 it1 c1 e) sc (.ListComp xe b scope d) = true) : ∃ xt xi ifs xt1 xi1 ifs1, b = [⟨xt, xi, ifs, 0⟩, ⟨xt1, xi1, ifs1, 0⟩] ∧
    (blkC N sc scope own && chkI g N it sc xt xi && chkTg N (lclB (relS scope sc)) gt xt && decide (∀ i ∈ gt.slots, i ∈ own.map (·.2)) && (match ifs with | [] => isYes c | [x] => chkT g N c (relS scope sc) x | _ => false) &&
    decide (∀ i ∈ vs, i ∈ own.map (·.2)) && chkI g N it1 (relS scope sc) xt1 xi1 && chkTg N (lclB (relS scope sc)) gt1 xt1 && decide (∀ i ∈ gt1.slots, i ∈ vs) && (match ifs1 with | [] => isYes c1 | [x] => chkT g N c1 (relS scope sc) x | _ => false) && chkE g N e (relS scope sc) xe) = true := by
  unfold chkE at h
  split at h <;> first | (cases h; done) | contradiction | skip
  next e1 e2 =>
  cases e1; cases e2
  exact ⟨_, _, _, _, _, _, rfl, h⟩
theorem chkPt_ok {X : Cx} {sc : Scope} (ok : XOk g G cls ecl k RX W X sc) {ps : List (List Nat)} {p : Pattern} (h : chkPt ps p = true) : PPt X p ps := by
  unfold chkPt at h
  split at h
  · obtain ⟨h1, h2⟩ := bools h
    have e := of_decide_eq_true h1; subst e
    exact pp_val ok.units h2
  · next pts p2 _ =>
    have key : ∀ (ps : List (List Nat)) (pts : List Pattern), chkPt.go ps pts = true → PPs X pts ps ∧ namesOfAll (pts.take 1) = [] := by
      intro ps
      induction ps with
      | nil =>
        intro pts h
        cases pts with
        | nil => exact ⟨.nil, rfl⟩
        | cons _ _ => unfold chkPt.go at h; cases h
      | cons z ps ih =>
        intro pts h
        unfold chkPt.go at h
        split at h <;> first | (cases h; done) | contradiction | skip
        next e1 =>
        cases e1
        obtain ⟨h, h3⟩ := bools h
        obtain ⟨h1, h2⟩ := bools h
        have e := of_decide_eq_true h1; subst e
        exact ⟨.cons (pp_val ok.units h2) (ih _ h3).1, rfl⟩
    obtain ⟨h1, h2⟩ := key _ _ h
    exact pp_or h1 h2
  · cases h
theorem XOk.nox {X : Cx} {sc : Scope} (ok : XOk g G cls ecl k RX W X sc) : XOk g G cls ecl k noX (fun _ _ _ _ => False) X.nox sc :=
  ⟨ok.nd, ok.sc, ok.kd, ok.calm, ok.room, PassesOwn.never, fun Y h1 h2 => ok.pass Y h1 h2, ok.fn, ok.gl, ok.blt, ok.cl, ok.at_, ok.exf, ok.grd, takes0, fun _ _ _ z => z.elim⟩
theorem XOk.tr {X : Cx} {sc : Scope} (ok : XOk g G cls ecl k RX W X sc) {cls' : Anc} (hc : cls'.cls = cls.cls) {RX' : RXn} {W' : WX} {pn : List (Addr × Obj)} {xe : Value → Shared → Prop} (tk : Takes (X.tr pn xe) W') (lx : LX X.K cls' ecl RX' W') (po : PassesOwn (model X.prog X.w) X.A X.env xe) : XOk g G cls' ecl k RX' W' (X.tr pn xe) sc :=
  ⟨ok.nd, ok.sc, ok.kd, ok.calm, ok.room, po, fun Y h1 h2 => ok.pass Y h1 h2, fun i sp h => by rw [hc]; exact ok.fn i sp h, ok.gl, ok.blt, fun c cv h => by rw [hc]; exact ok.cl c cv h, fun c C f h => ok.at_ c C f (by rw [← hc]; exact h), ok.exf, ok.grd, tk, lx⟩
theorem tup_h1 {xs : List Expr} {j : Nat} {p : Pos} {env : PySem.Env} : (assignEach [.Tuple xs j p] env).map (·.2) = [assign (.Tuple xs j p) env] := rfl
theorem noTup_sw {x : Expr} (h : noTup x = true) (ts : List Expr) (j : Nat) (p : Pos) (env : PySem.Env) : swappedStores [.Tuple ts j p] x env = pure none := by
  cases x <;> first | (cases h; done) | rfl
theorem sub_sw {x a b : Expr} (p : Pos) (env : PySem.Env) : swappedStores [.Subscript a b p] x env = pure none := by
  cases x <;> rfl
theorem tup_sole {x : Expr} {ts : List Expr} {j : Nat} {p : Pos} (l : Nat) (env : PySem.Env) : swapsWithSole [.Tuple ts j p] x l env = pure false := by
  cases x <;> rfl
theorem sub_sole {x a b : Expr} {p : Pos} (l : Nat) (env : PySem.Env) : swapsWithSole [.Subscript a b p] x l env = pure false := by
  cases x <;> rfl
theorem att_sole {x a : Expr} {f : Str} {p : Pos} (l : Nat) (env : PySem.Env) : swapsWith x (some (.Attribute a f p)) l env = pure false := by
  cases x <;> rfl
theorem sw_cel {elt : Expr} {gs : List Comprehension} {scope : Scope} {pos py : Pos} {y : Str} {l : Nat} {env : PySem.Env} (h : env.scope.names.lookup y = some .cell) : swapsWith (.ListComp elt gs scope pos) (some (.Name y py)) l env = pure false := by
  have ky : env.kindOf y = some .cell := h
  unfold swapsWith
  simp only [ky]
  have : (some NameKind.cell == some NameKind.local) = false := rfl
  simp [this]
theorem isLc_of {e : E} (h : isLc e = true) : (∃ m own gt it c e', e = .lc m own gt it c e') ∨ ∃ m own vs gt it c gt1 it1 c1 e', e = .lc2 m own vs gt it c gt1 it1 c1 e' := by
  cases e <;> first | (cases h; done) | exact .inl ⟨_, _, _, _, _, _, rfl⟩ | exact .inr ⟨_, _, _, _, _, _, _, _, _, _, rfl⟩
theorem sub_ha {a b : Expr} {p : Pos} {env : PySem.Env} (h : plainX b = true) : ∀ v, assign (.Subscript a b p) env v = (do
      let ov ← holding [v] (eval a env)
      let iv ← holding [v, ov] (eval b env)
      standAt p
      holding [v, ov, iv] (setItem ov iv v)
      release [v, ov, iv] []) := by
  cases b <;> first | (intro _; rfl) | (cases h)
theorem XOk.cel {X : Cx} {sc : Scope} (ok : XOk g G cls ecl k RX W X sc) {x : Str} (h : celB sc x = true) : X.env.scope.names.lookup x = some .cell := by
  unfold celB at h
  rw [ok.sc]
  split at h <;> first | assumption | (cases h)
/-! ### an except suite -/
section
variable {X : Cx} {sc : Scope} {cls' : Anc} {x : Xn} {io : Option Nat} {n : Option Str} {a D : Addr} {dv : Option Addr} {oe : Obj} {pn : List (Addr × Obj)}
/-- the clause's name reads the slot -/
abbrev NmOk (X : Cx) (io : Option Nat) (n : Option Str) (Y : Cx) : Prop := ∀ m, n = some m → ∃ i, io = some i ∧ ∀ p : Pos, PE Y (.Name m p) (tVar i)
theorem he_is' (ok : XOk g G cls ecl k RX W X sc) (su : Sui X cls' x a dv D oe) (an : SR X.K ⟨cls'.cls, cls'.F, cls'.H, cls'.S⟩ cls'.F cls'.H cls'.S) (hD : ecl[x.c]? = some D) (hvar : NmOk X io n (X.suite a ((a, oe) :: pn))) (nm m t' t : Str) {p1 p2 p3 p4 : Pos}
    (h : (decide (nm = "isinstance") && decide (n = some m) && decide (t' = t) && glB sc nm && glB sc t && namB t) = true) : PE (X.suite a ((a, oe) :: pn)) (.Call (.Name nm p1) [.Name m p2, .Name t' p3] [] p4) (tE X.K cls' (wHE G x io a (.is t))) := by
  obtain ⟨h, h6⟩ := bools h
  obtain ⟨h, h5⟩ := bools h
  obtain ⟨h, h4⟩ := bools h
  obtain ⟨h, h3⟩ := bools h
  obtain ⟨h1, h2⟩ := bools h
  have e1 := of_decide_eq_true h1
  have e2 := of_decide_eq_true h2
  have e3 := of_decide_eq_true h3
  subst nm t'
  obtain ⟨i, rfl, hv⟩ := hvar m e2
  obtain ⟨x1, x2, x3⟩ := ok.exf.xf _ _ hD
  cases hb : G.eis x.c t with
  | none => exact ⟨fun pins s σ H Q I ⟨F, S, ρ, R, sr, er, hw, l⟩ => by
      obtain ⟨_, k1⟩ := hw
      simp only [hev] at k1
      obtain ⟨b, k1, _⟩ := k1
      rw [hb] at k1; cases k1⟩
  | some b =>
    obtain ⟨v, cv, hc, rv, hu, hk⟩ := ok.exf.ki _ _ _ _ hD hb
    refine he_is (c := v) (cv := cv) (q := default) su an x2 (ok.gl' h4) (ok.blt _ (by decide +kernel)) (hv _) ?_ hu (fun b' hb' => by rw [hb] at hb'; cases hb'; exact hk) rfl rfl rfl
    rcases hc with hm | ⟨hm, hv, hne⟩
    · exact pe_glob (X := X.suite a ((a, oe) :: pn)) (ok.gl' h5) hm rv (nam_ok h6).1
    · exact pe_bltn (X := X.suite a ((a, oe) :: pn)) (ok.gl' h5) hm hv rv hne (nam_ok h6).1
mutual
theorem okHE (ok : XOk g G cls ecl k RX W X sc) (su : Sui X cls' x a dv D oe) (an : SR X.K ⟨cls'.cls, cls'.F, cls'.H, cls'.S⟩ cls'.F cls'.H cls'.S) (hD : ecl[x.c]? = some D) (hvar : NmOk X io n (X.suite a ((a, oe) :: pn))) :
    ∀ (h : HE) {xe : Expr}, chkHE g X.N sc n h xe = true → PE (X.suite a ((a, oe) :: pn)) xe (tE X.K cls' (wHE G x io a h))
  | .lit u, xe, h => by
    cases xe <;> first | (unfold chkHE at h; cases h; done) | skip
    unfold chkHE at h
    obtain ⟨h1, h2⟩ := bools h
    exact (lit_ok (X := X.suite a ((a, oe) :: pn)) (cls := cls') h2).imp fun σ H Q ⟨F, S, ρ, R, sr, er, hw, l⟩ => ⟨F, S, ρ, R, sr, er, (by have k2 := hw.2; simp only [hev] at k2; exact k2.2), l⟩
  | .var j, xe, h => by
    cases xe <;> first | (unfold chkHE at h; cases h; done) | skip
    unfold chkHE at h
    obtain ⟨h, h3⟩ := bools h
    obtain ⟨h1, h2⟩ := bools h
    obtain ⟨n1, n2⟩ := nam_ok h3
    exact he_var (pe_var (X := X.suite a ((a, oe) :: pn)) (of_decide_eq_true h1) (ok.vis h2) n1 n2)
  | .fx f, xe, h => by
    unfold chkHE at h
    split at h <;> first | (cases h; done) | contradiction | skip
    next e1 =>
    cases e1
    obtain ⟨h, h3⟩ := bools h
    obtain ⟨h1, h2⟩ := bools h
    have e1 := of_decide_eq_true h1
    have e2 := of_decide_eq_true h2; subst e2
    obtain ⟨i, rfl, hv⟩ := hvar _ e1
    obtain ⟨x1, x2, x3⟩ := ok.exf.xf _ _ hD
    exact he_fx su an x1 (x3 _ h3) (hv _) (base_plain (by rfl) _ _)
  | .is t, xe, h => by
    unfold chkHE at h
    split at h <;> first | (cases h; done) | contradiction | skip
    next e1 =>
    cases e1
    exact he_is' ok su an hD hvar _ _ _ _ h
  | .nt h, xe, hc => by
    unfold chkHE at hc
    split at hc <;> first | (cases hc; done) | contradiction | skip
    next e1 =>
    cases e1
    exact he_nt (okHE ok su an hD hvar h hc)
  | .and h h', xe, hc => by
    unfold chkHE at hc
    split at hc <;> first | (cases hc; done) | contradiction | skip
    · next e1 =>
      cases e1
      obtain ⟨h1, h2⟩ := bools hc
      exact he_and (okHE ok su an hD hvar h h1) (pe_one (okHE ok su an hD hvar h' h2))
    · next e1 =>
      cases e1
      obtain ⟨h1, h2⟩ := bools hc
      exact he_and (okHE ok su an hD hvar h h1) (okHE ok su an hD hvar h' h2)
  | .lst es, xe, h => by
    cases xe <;> first | (unfold chkHE at h; cases h; done) | skip
    unfold chkHE at h
    exact he_lst (okHEs ok su an hD hvar es h)
  | .add a b, xe, h => by
    unfold chkHE at h
    split at h <;> first | (cases h; done) | contradiction | skip
    next e1 =>
    cases e1
    obtain ⟨h1, h2⟩ := bools h
    exact he_add (okHE ok su an hD hvar a h1) (okHE ok su an hD hvar b h2)
  | .repr a', xe, h => by
    unfold chkHE at h
    split at h <;> first | (cases h; done) | contradiction | skip
    next e1 =>
    cases e1
    obtain ⟨h, h3⟩ := bools h
    obtain ⟨h1, h2⟩ := bools h
    have e := of_decide_eq_true h1; subst e
    exact he_repr (X := X.suite a ((a, oe) :: pn)) ok.grd (by have := ok.room.un; show X.A.units + 200 < _; omega) (ok.gl' h2) (ok.blt _ (by decide +kernel)) (okHE ok su an hD hvar a' h3) (star_plain (plain_he h3) _ _)
theorem okHEs (ok : XOk g G cls ecl k RX W X sc) (su : Sui X cls' x a dv D oe) (an : SR X.K ⟨cls'.cls, cls'.F, cls'.H, cls'.S⟩ cls'.F cls'.H cls'.S) (hD : ecl[x.c]? = some D) (hvar : NmOk X io n (X.suite a ((a, oe) :: pn))) :
    ∀ (es : HEs) {xs : List Expr}, chkHEs g X.N sc n es xs = true → PA (X.suite a ((a, oe) :: pn)) xs (tA X.K cls' (wHEs G x io a es))
  | .nil, [], h => he_nil
  | .cons e es, x :: xs, h => by
    unfold chkHEs at h
    obtain ⟨h1, h2⟩ := bools h
    exact he_cons (okHE ok su an hD hvar e h1) (okHEs ok su an hD hvar es h2) (star_plain (plain_he h1) xs _)
  | .nil, _ :: _, h => by unfold chkHEs at h; cases h
  | .cons _ _, [], h => by unfold chkHEs at h; cases h
end
theorem okHs (ok : XOk g G cls ecl k RX W X sc) (hf : XFn X) (su : Sui X cls' x a dv D oe) (an : SR X.K ⟨cls'.cls, cls'.F, cls'.H, cls'.S⟩ cls'.F cls'.H cls'.S) (hD : ecl[x.c]? = some D) (hvar : NmOk X io n (X.suite a ((a, oe) :: pn))) :
    ∀ (h : List Hs) {ss : List Stmt}, chkHs g X.N sc n h ss = true → PSs (X.suite a ((a, oe) :: pn)) ss (tC' X.K cls' (wHs G x io a h))
  | [], [], _ => c_nil
  | .ret e :: hs, s :: ss, hc => by
    unfold chkHs at hc
    obtain ⟨h1, h2⟩ := bools hc
    unfold chkH1 at h1
    split at h1 <;> first | (cases h1; done) | contradiction | skip
    next e1 =>
    cases e1
    exact c_cons (w1 := fun ρ S D => wHE G x io a e ρ S D.rt) (w2 := wHs G x io a hs) (c_ret (X := X.suite a ((a, oe) :: pn)) (okHE ok su an hD hvar _ h1)) (okHs ok hf su an hD hvar hs h2)
  | .set j e :: hs, s :: ss, hc => by
    unfold chkHs at hc
    obtain ⟨h1, h5⟩ := bools hc
    unfold chkH1 at h1
    split at h1 <;> first | (cases h1; done) | contradiction | skip
    next e1 =>
    cases e1
    obtain ⟨hc, h4⟩ := bools h1
    obtain ⟨hc, h3⟩ := bools hc
    obtain ⟨h1, h2⟩ := bools hc
    exact c_cons (w1 := fun ρ S D => wHE G x io a e ρ S fun u S1 => D.nx (ρ.set j (some u)) S1) (w2 := wHs G x io a hs)
      (c_asg (X := X.suite a ((a, oe) :: pn)) (g := .one j) (ps_set (X := X.suite a ((a, oe) :: pn)) ok.nd (of_decide_eq_true h1) (.inl (ok.lcl h2)) (okHE ok su an hD hvar _ h4) (noComp_sw h3 _ _ _) (.inr (ok.lcl h2)))) (okHs ok hf su an hD hvar hs h5)
  | .pas :: hs, s :: ss, hc => by
    unfold chkHs at hc
    obtain ⟨h1, h2⟩ := bools hc
    unfold chkH1 at h1
    split at h1 <;> first | (cases h1; done) | contradiction | skip
    next e1 =>
    exact c_cons (w1 := fun ρ S D => D.nx ρ S) (w2 := wHs G x io a hs) (c_pas (X := X.suite a ((a, oe) :: pn))) (okHs ok hf su an hD hvar hs h2)
  | [], _ :: _, hc => by unfold chkHs at hc; cases hc
  | .ret _ :: _, [], hc => by unfold chkHs at hc; cases hc
  | .set _ _ :: _, [], hc => by unfold chkHs at hc; cases hc
  | .pas :: _, [], hc => by unfold chkHs at hc; cases hc
end
theorem okQs {X : Cx} {sc : Scope} (ok : XOk g G cls ecl k RX W X sc) (hf : XFn X) : ∀ (qs : List Cl) {hds : List ExceptHandler}, chkQs g X.N sc qs hds = true → ∃ ms, ClsOk X cls.cls ecl G hds qs ms
  | [], [], _ => ⟨[], .nil⟩
  | [], _ :: _, h => by unfold chkQs at h; cases h
  | _ :: _, [], h => by unfold chkQs at h; cases h
  | q :: qs, hd :: hds, h => by
    unfold chkQs at h
    obtain ⟨h1, h2⟩ := bools h
    obtain ⟨ms, hms⟩ := okQs ok hf qs h2
    unfold chkQ at h1
    split at h1 <;> first | (cases h1; done) | contradiction | skip
    · next c hh x np ss ph =>
      obtain ⟨hc, h5⟩ := bools h1
      obtain ⟨hc, h4⟩ := bools hc
      obtain ⟨hc, h3⟩ := bools hc
      obtain ⟨h1, h2⟩ := bools hc
      obtain ⟨C, hC, hm⟩ := ok.exf.nm _ _ (of_decide_eq_true h1)
      obtain ⟨s0, sr, rfl⟩ : ∃ s0 sr, ss = s0 :: sr := by
        cases ss with
        | nil => cases h4
        | cons s0 sr => exact ⟨_, _, rfl⟩
      refine ⟨_, .cons (cv := .ref C) (fun i' C' h' => ok.exf.em _ _ _ _ h' hC) (fun hr => .no rfl ⟨ok.gl' h2, (nam_ok h3).1, .inl hm⟩ (fun a ob cl d pn hz hd => ⟨fun pins s σ H D I hts => ?_⟩) hr) hms⟩
      obtain ⟨x', Dc, F, S, rfl, k1, k2, k3, k4⟩ := hts
      exact (okHs ok hf (cls' := ⟨cls.cls, F, H, S⟩) ⟨k2, hz, hd⟩ k3 k1 (fun m e => by cases e) _ h5).run pins s σ H D I k4
    · next c i hh x np n ss ph =>
      obtain ⟨hc, h8⟩ := bools h1
      obtain ⟨hc, h7⟩ := bools hc
      obtain ⟨hc, h6⟩ := bools hc
      obtain ⟨hc, h5⟩ := bools hc
      obtain ⟨hc, h4⟩ := bools hc
      obtain ⟨hc, h3⟩ := bools hc
      obtain ⟨h1, h2⟩ := bools hc
      obtain ⟨C, hC, hm⟩ := ok.exf.nm _ _ (of_decide_eq_true h1)
      obtain ⟨s0, sr, rfl⟩ : ∃ s0 sr, ss = s0 :: sr := by
        cases ss with
        | nil => cases h4
        | cons s0 sr => exact ⟨_, _, rfl⟩
      have hi := of_decide_eq_true h5
      refine ⟨_, .cons (cv := .ref C) (fun i' C' h' => ok.exf.em _ _ _ _ h' hC) (fun hr => .nm rfl hi (ok.lcl h6) ⟨ok.gl' h2, (nam_ok h3).1, .inl hm⟩ (fun a ob cl d pn hz hd => ⟨fun pins s σ H D I hts => ?_⟩) hr) hms⟩
      obtain ⟨x', Dc, F, S, rfl, k1, k2, k3, k4⟩ := hts
      exact (okHs ok hf (cls' := ⟨cls.cls, F, H, S⟩) (io := some i) (n := some n) ⟨k2, hz, hd⟩ k3 k1 (fun m e => by cases e; exact ⟨i, rfl, fun p => pe_var (X := X.suite a ((a, ob) :: pn)) hi (.inl (ok.lcl h6)) (nam_ok h7).1 (nam_ok h7).2⟩) _ h8).run pins s σ H D I k4
mutual
theorem okS : ∀ (s : Cm) {cls : Anc} {RX : RXn} {W : WX} {X : Cx} {sc : Scope} {x : Stmt}, XOk g G cls ecl k RX W X sc → XFn X → chkS g X.N s sc x = true → PS X x (tC' X.K cls (wC G RX s))
  | .set i e, cls, RX, W, X, sc, x, ok, hf, h => by
    cases x <;> first | (unfold chkS at h; cases h; done) | skip
    unfold chkS at h
    split at h <;> first | (cases h; done) | contradiction | skip
    next e1 e2 =>
    cases e1; cases e2
    obtain ⟨h, h3⟩ := bools h
    obtain ⟨h1, h2⟩ := bools h
    have hi := of_decide_eq_true h1
    have he := okE e ok h2
    split at h3
    · split at h3
      · next hcel =>
        have hl := ok.cel hcel
        exact c_asg (g := .one i) (ps_set ok.nd hi (.inr hl) he (sw_cel hl) (.inl (hf.1 _)))
      obtain ⟨h3, h6⟩ := bools h3
      obtain ⟨h3, h5⟩ := bools h3
      obtain ⟨h3, h4⟩ := bools h3
      rcases isLc_of h3 with ⟨m, own, gt, it, c, e', rfl⟩ | ⟨m, own, vs, gt, it, c, gt1, it1, c1, e', rfl⟩
      rotate_left
      · obtain ⟨xt, xi, ifs, xt1, xi1, ifs1, rfl, hh⟩ := inv_lc3 h2
        obtain ⟨h, h11⟩ := bools hh
        obtain ⟨h, h10⟩ := bools h
        obtain ⟨h, h9⟩ := bools h
        obtain ⟨h, h8⟩ := bools h
        obtain ⟨h, h7⟩ := bools h
        obtain ⟨h, k6⟩ := bools h
        obtain ⟨h, k5⟩ := bools h
        obtain ⟨h, k4⟩ := bools h
        obtain ⟨h, k3⟩ := bools h
        obtain ⟨k1, k2⟩ := bools h
        have hb := blkOk_by k1
        rw [← ok.sc] at hb
        have hl := ok.lcl h4
        exact c_asg (g := .one i) ((ps_setLc2 (i := i) ok.calm ok.nd hi hl (sw_true ok.kd hl h5 (by simpa using h6)) (okI _ ok k2) hb (of_decide_eq_true k6) (fun s H C cl fp => tg_ok (X := X.blk s H _ (compEnvC _ cl C X.env) fp) ok.nd ok.calm (blk_loc ok hb s H C cl fp) k3)
          (fun s H C cl fp => okC _ (fun y hy => okT _ (ok.blk hb s H C cl fp) hy) k5) (fun s H C cl fp => okI _ (ok.blk hb s H C cl fp) h7) (fun s H C cl fp => tg_ok (X := X.blk s H _ (compEnvC _ cl C X.env) fp) ok.nd ok.calm (blk_loc ok hb s H C cl fp) h8)
          (fun s H C cl fp => okC _ (fun y hy => okT _ (ok.blk hb s H C cl fp) hy) h10) (fun s H C cl fp => okE _ (ok.blk hb s H C cl fp) h11) (foldI k2 _) (fun env => foldI h7 env)).imp fun D σ H hh => lc2_imp (of_decide_eq_true k4) (of_decide_eq_true h9) σ H _ hh)
      obtain ⟨xt, xi, ifs, rfl, hh⟩ := inv_lc2 h2
      obtain ⟨h, g6⟩ := bools hh
      obtain ⟨h, g5⟩ := bools h
      obtain ⟨h, g4⟩ := bools h
      obtain ⟨h, g3⟩ := bools h
      obtain ⟨g1, g2⟩ := bools h
      have hb := blkOk_by g1
      rw [← ok.sc] at hb
      have hl := ok.lcl h4
      refine c_asg (g := .one i) ((ps_setLc (i := i) ok.calm ok.nd hi hl (sw_true ok.kd hl h5 (by simpa using h6)) (okI _ ok g2) hb (fun s H C cl fp => tg_ok (X := X.blk s H _ (compEnvC _ cl C X.env) fp) ok.nd ok.calm (fun y hy => ?_) g3)
        (fun s H C cl fp => okC _ (fun y hy => okT _ (ok.blk hb s H C cl fp) hy) g5) (fun s H C cl fp => okE _ (ok.blk hb s H C cl fp) g6) (foldI g2 _)).imp fun D σ H hh => lc_imp (of_decide_eq_true g4) σ H _ hh)
      have q := (ok.blk hb s H C cl fp).lcl hy
      exact ⟨.inl q, .inr q⟩
    · next hn =>
      have hc := noComp_of (plain_of h2) (fun a b c d z => hn _ _ _ _ z)
      exact c_asg (g := .one i) (ps_set ok.nd hi (ok.loc h3) he (noComp_sw hc _ _ _) (.inl (hf.1 _)))
  | .setT is e, cls, RX, W, X, sc, x, ok, hf, h => by
    cases x <;> first | (unfold chkS at h; cases h; done) | skip
    unfold chkS at h
    split at h <;> first | (cases h; done) | contradiction | skip
    next e1 e2 =>
    cases e1; cases e2
    obtain ⟨h, h3⟩ := bools h
    obtain ⟨h1, h2⟩ := bools h
    exact c_asg (g := .tup is) (ps_asg (okE e ok h3) (tgs_ok ok hf (t := .tup is) h1) (tup_sole _ _) (noTup_sw h2 _ _ _ _) rfl)
  | .setIx o i e, cls, RX, W, X, sc, x, ok, hf, h => by
    cases x <;> first | (unfold chkS at h; cases h; done) | skip
    unfold chkS at h
    split at h <;> first | (cases h; done) | contradiction | skip
    next e1 e2 =>
    cases e1; cases e2
    obtain ⟨h, h3⟩ := bools h
    obtain ⟨h1, h2⟩ := bools h
    have he := okE e ok h3
    have ho := okE o ok h1
    have hi := okE i ok h2
    exact c_setIx he ho hi (ps_asg he (pg_sub ho hi (set_any (by have := ok.units; omega)) (sub_ha (plain_of h2))) (sub_sole _ _) (sub_sw _ _) rfl)
  | .setF o f e, cls, RX, W, X, sc, x, ok, hf, h => by
    cases x <;> first | (unfold chkS at h; cases h; done) | skip
    unfold chkS at h
    split at h <;> first | (cases h; done) | contradiction | skip
    next e1 e2 =>
    cases e1; cases e2
    obtain ⟨h, h3⟩ := bools h
    obtain ⟨h1, h2⟩ := bools h
    have e := of_decide_eq_true h1; subst e
    exact c_setF (fun c C hC => ok.at_ c C _ hC) (okE _ ok h3) (okE o ok h2) (att_sole _ _)
  | .aug i o e, cls, RX, W, X, sc, x, ok, hf, h => by
    cases x <;> first | (unfold chkS at h; cases h; done) | skip
    unfold chkS at h
    split at h <;> first | (cases h; done) | contradiction | skip
    next e1 e2 =>
    cases e1; cases e2
    obtain ⟨h, h5⟩ := bools h
    obtain ⟨h, h4⟩ := bools h
    obtain ⟨h, h3⟩ := bools h
    obtain ⟨h1, h2⟩ := bools h
    have e := of_decide_eq_true h2; subst e
    have h3 : o = .add ∨ o = .sub := by
      rw [Bool.or_eq_true] at h3
      exact h3.imp of_decide_eq_true of_decide_eq_true
    exact c_aug h3 ok.nd (of_decide_eq_true h1) (ok.loc h4) (okE e ok h5) (.inl (hf.1 _))
  | .ex e, cls, RX, W, X, sc, x, ok, hf, h => by
    cases x <;> first | (unfold chkS at h; cases h; done) | skip
    unfold chkS at h
    obtain ⟨h1, h2⟩ := bools h
    exact c_ex (okE e ok h2) (noComp_sw h1 _ _ _)
  | .ret e, cls, RX, W, X, sc, x, ok, hf, h => by
    cases x <;> first | (unfold chkS at h; cases h; done) | skip
    next o p =>
    cases o <;> first | (unfold chkS at h; cases h; done) | skip
    unfold chkS at h
    exact c_ret (okE e ok h)
  | .retN, cls, RX, W, X, sc, x, ok, hf, h => by
    cases x <;> first | (unfold chkS at h; cases h; done) | skip
    next o p =>
    cases o <;> first | (unfold chkS at h; cases h; done) | skip
    exact c_retN
  | .ite t a b, cls, RX, W, X, sc, x, ok, hf, h => by
    cases x <;> first | (unfold chkS at h; cases h; done) | skip
    unfold chkS at h
    obtain ⟨h, h3⟩ := bools h
    obtain ⟨h1, h2⟩ := bools h
    exact c_ite (okT t ok h1) (okSs a ok hf h2) (okSs b ok hf h3)
  | .whl t b, cls, RX, W, X, sc, x, ok, hf, h => by
    cases x <;> first | (unfold chkS at h; cases h; done) | skip
    unfold chkS at h
    split at h <;> first | (cases h; done) | contradiction | skip
    next e1 e2 =>
    cases e1; cases e2
    obtain ⟨h1, h2⟩ := bools h
    exact c_whl ok.own (okT t ok h1) (okSs b ok hf h2)
  | .for gt it b, cls, RX, W, X, sc, x, ok, hf, h => by
    cases x <;> first | (unfold chkS at h; cases h; done) | skip
    unfold chkS at h
    split at h <;> first | (cases h; done) | contradiction | skip
    next e1 e2 =>
    cases e1; cases e2
    obtain ⟨h, h3⟩ := bools h
    obtain ⟨h1, h2⟩ := bools h
    exact c_for (ps_for ok.own ok.calm (okI it ok h2) (tgs_ok ok hf h1) (okSs b ok hf h3) (foldI h2 _))
  | .brk, cls, RX, W, X, sc, x, ok, hf, h => by
    cases x <;> first | (unfold chkS at h; cases h; done) | skip
    exact c_brk
  | .cnt, cls, RX, W, X, sc, x, ok, hf, h => by
    cases x <;> first | (unfold chkS at h; cases h; done) | skip
    exact c_cnt
  | .pas, cls, RX, W, X, sc, x, ok, hf, h => by
    cases x <;> first | (unfold chkS at h; cases h; done) | skip
    exact c_pas
  | .mat e cs, cls, RX, W, X, sc, x, ok, hf, h => by
    cases x <;> first | (unfold chkS at h; cases h; done) | skip
    unfold chkS at h
    obtain ⟨h1, h2⟩ := bools h
    exact c_mat (okE e ok h1) (okCs cs ok hf h2)
  | .tryN b, cls, RX, W, X, sc, x, ok, hf, h => by
    cases x <;> first | (unfold chkS at h; cases h; done) | skip
    unfold chkS at h
    split at h <;> first | (cases h; done) | contradiction | skip
    next e1 e2 =>
    cases e1; cases e2
    exact c_tryN (okSs b (X := X.nox) ok.nox ⟨hf.1, hf.2.1, hf.2.2⟩ h)
    | .rai c es, cls, RX, W, X, sc, x, ok, hf, h => by
    unfold chkS at h
    cases hr : raiOf x with
    | none => rw [hr] at h; cases h
    | some r =>
    obtain ⟨nm, xs⟩ := r
    rw [hr] at h
    obtain ⟨p, pos, pos2, rfl⟩ := raiOf_ok hr
    obtain ⟨h, h5⟩ := bools h
    obtain ⟨h, h4⟩ := bools h
    obtain ⟨h, h3⟩ := bools h
    obtain ⟨h1, h2⟩ := bools h
    obtain ⟨C, hC, hm⟩ := ok.exf.nm _ _ (of_decide_eq_true h1)
    obtain ⟨y, ys, rfl⟩ : ∃ y ys, xs = y :: ys := by
      cases xs with
      | nil => cases h4
      | cons y ys => exact ⟨y, ys, rfl⟩
    obtain ⟨e, es', rfl⟩ : ∃ e es', es = .cons e es' := by
      cases es with
      | nil => unfold chkEs at h5; cases h5
      | cons e es' => exact ⟨_, _, rfl⟩
    have h5' := h5
    unfold chkEs at h5'
    replace h5' := bools h5'
    have h6 := h5'.2
    refine ⟨fun pins s σ H D I ⟨F, S, ρ, R, sr, er, ⟨fl, hfl, hne, hw⟩, l⟩ => ?_⟩
    obtain ⟨row, h900⟩ := (ok.exf.row _ C fl hC hfl).1 hne
    exact (c_rai (c := c) ok.calm ok.tk ok.lx hC row ok.room (fun pins σ H s e s' I z => (ok.pass X rfl rfl) pins σ H s e s' I z) (ok.gl' h2) hm h900 (okEs _ ok h5) (nam_ok h3).1 (star_plain (plain_of h5'.1) _ _) (noany (star_all h6 X.env))).run pins s σ H D I ⟨F, S, ρ, R, sr, er, hw, l⟩
  | .rai0 c, cls, RX, W, X, sc, x, ok, hf, h => by
    unfold chkS at h
    cases hr : raiOf x with
    | none => rw [hr] at h; cases h
    | some r =>
    obtain ⟨nm, xs⟩ := r
    rw [hr] at h
    cases xs with
    | cons _ _ => cases h
    | nil =>
    obtain ⟨p, pos, pos2, rfl⟩ := raiOf_ok hr
    obtain ⟨h, h3⟩ := bools h
    obtain ⟨h1, h2⟩ := bools h
    obtain ⟨C, hC, hm⟩ := ok.exf.nm _ _ (of_decide_eq_true h1)
    refine ⟨fun pins s σ H D I ⟨F, S, ρ, R, sr, er, ⟨hfl, hw⟩, l⟩ => ?_⟩
    exact (c_rai0 (c := c) ok.calm ok.tk ok.lx hC ((ok.exf.row _ C [] hC hfl).2 rfl) ok.room (ok.pass X rfl rfl) (ok.gl' h2) hm (nam_ok h3).1).run pins s σ H D I ⟨F, S, ρ, R, sr, er, hw, l⟩
  | .tryM b qs, cls, RX, W, X, sc, x, ok, hf, hc => by
    unfold chkS at hc
    cases hr : tryOf x with
    | none => rw [hr] at hc; cases hc
    | some r =>
    obtain ⟨xb, hds⟩ := r
    rw [hr] at hc
    obtain ⟨pos, rfl⟩ := tryOf_ok hr
    obtain ⟨hc, h3⟩ := bools hc
    obtain ⟨h1, h2⟩ := bools hc
    cases hds with
    | nil => cases h1
    | cons h₀ hds =>
    obtain ⟨ms, hms⟩ := okQs ok hf qs h2
    exact c_tryM hf.2.1 hf.2.2 ok.nd ok.tk ok.lx hms (fun RX' W' cls' pn xe hcl tk' lx' po => okSs b (X := X.tr pn xe) (ok.tr hcl tk' lx' po) ⟨hf.1, hf.2.1, hf.2.2⟩ h3)
  | .never, cls, RX, W, X, sc, x, ok, hf, h => c_never
theorem okSs : ∀ (ss : Cms) {cls : Anc} {RX : RXn} {W : WX} {X : Cx} {sc : Scope} {xs : List Stmt}, XOk g G cls ecl k RX W X sc → XFn X → chkSs g X.N ss sc xs = true → PSs X xs (tC' X.K cls (wCms G RX ss))
  | .nil, cls, RX, W, X, sc, [], ok, hf, h => c_nil
  | .cons s r, cls, RX, W, X, sc, x :: xs, ok, hf, h => by
    unfold chkSs at h
    obtain ⟨h1, h2⟩ := bools h
    exact c_cons (w1 := wC G RX s) (w2 := wCms G RX r) (okS s ok hf h1) (okSs r ok hf h2)
  | .nil, _, _, _, _, _, _ :: _, _, _, h => by unfold chkSs at h; cases h
  | .cons _ _, _, _, _, _, _, [], _, _, h => by unfold chkSs at h; cases h
theorem okCs : ∀ (cs : Cs) {cls : Anc} {RX : RXn} {W : WX} {X : Cx} {sc : Scope} {xs : List MatchCase}, XOk g G cls ecl k RX W X sc → XFn X → chkCs g X.N cs sc xs = true → PK X cls xs (wCs G RX cs)
  | .nil, cls, RX, W, X, sc, [], ok, hf, h => k_nil
  | .nil, _, _, _, _, _, _ :: _, _, _, h => by unfold chkCs at h; cases h
  | .dflt b, cls, RX, W, X, sc, xs, ok, hf, h => by
    unfold chkCs at h
    split at h <;> first | (cases h; done) | contradiction | skip
    next e1 =>
    cases e1
    exact k_dflt (okSs b ok hf h)
  | .cons ps b r, cls, RX, W, X, sc, xs, ok, hf, h => by
    unfold chkCs at h
    split at h <;> first | (cases h; done) | contradiction | skip
    next e1 =>
    cases e1
    obtain ⟨h, h3⟩ := bools h
    obtain ⟨h1, h2⟩ := bools h
    exact k_cons (chkPt_ok ok h1) (okSs b ok hf h2) (okCs r ok hf h3)
end
/-- what is fixed for a whole program: what the top has left -/
structure Base (g : GN) (G : GV) (cla ecl : List Addr) (k : Nat) (P : Program) (w : World) (K : PySem.W.Frag) (mg : Str → Option Value) (base : Heap) : Prop where
  fn : ∀ (i : Nat) sp, G.fns[i]? = some sp → ∃ nm f, g.fns[i]? = some nm ∧ DefOk G.gd P w K mg base cla ecl k f sp ∧ mg nm = some (.ref f) ∧ PySem.W.keepIn K (.ref f) = true
  gl : ∀ (i : Nat) u, G.globs[i]? = some u → ∃ nm v w, g.globs[i]? = some nm ∧ mg nm = some w ∧ RelV v w ∧ ∀ F H, VRel K F H v u
  blt : ∀ x ∈ bltNames, mg x = none
  cl : ∀ (c : Nat) cv, G.cls[c]? = some cv → ∃ cn C f, g.cls[c]? = some cn ∧ cla[c]? = some C ∧ Mk K C f ∧ DefOk false P w K mg base cla ecl k f cv.init ∧ mg cn.name = some (.ref C) ∧
    ∀ (m : Nat) sp, cv.meths[m]? = some sp → ∃ nm f, cn.meths[m]? = some nm ∧ Meth K C nm f ∧ DefOk false P w K mg base cla ecl k f sp ∧ G.attr c nm = false
  at_ : ∀ (c : Nat) C f, cla[c]? = some C → Cls K C ∧ (G.attr c f = true → NoAttr K C f)
  exf : ExF g G ecl k P w K mg base
/-- the names' values at a def's entry -/
def startU (N : List Str) (us : List U) : Env := us.map some ++ List.replicate (N.length - us.length) none
/-- where a def's body begins -/
theorem defX {cl : List Addr} {P : Program} {w : World} {K : PySem.W.Frag} {mg : Str → Option Value} {base : Heap} {qual : Str} {sc : Scope} {f : Addr} {N ps : List Str} {cdv : Value} {A : Around} {outer : List PySem.Env} {s : Shared} {F0 : Addr → Prop} {H : Hp} {S0 : Sto} {E : XK} {RX : RXn}
    (B : Base g G cl ecl k P w K mg base) (S : FnScope N ps sc) (hr : Room (k + 1) (A.deeper (envOfC qual sc s.heap.objs.size f cdv))) (hgd : G.gd = true → A.guards = some []) (lx : LX K ⟨cl, F0, H, S0⟩ ecl RX fun c d _ H' => E c d H') :
    XOk g G ⟨cl, F0, H, S0⟩ ecl k RX (fun c d _ H' => E c d H') (cxOf (L2.CX P w) P w K mg base N qual sc f cdv A outer s H E) sc :=
  ⟨S.nd, rfl, S.kind, rfl, hr, passes_of (K := fun e s'' => L2.CX P w outer H s E e s'') rfl, fun Y h1 h2 => by rw [← show Y.prog = P from h1, ← show Y.w = w from h2]; exact passL, B.fn, B.gl, B.blt, B.cl, B.at_, B.exf, hgd,
    takes_of rfl rfl rfl rfl, lx⟩
theorem defR {K : PySem.W.Frag} {N ps : List Str} {cls : Anc} {F0 : Addr → Prop} {H : Hp} (S0 : Sto) {vs : List V} {us : List U} {w : WC} {R : Post} {Q : VK} (sr : SR K cls F0 H S0) (rs : VRels K F0 H vs us) (hl : vs.length = ps.length) (h : w (startU N us) S0 { nx := fun _ S' => R .non S', rt := R }) (l : Lq K cls F0 H S0 R Q) :
    tC' K cls w { nx := fun _ H' => Q .non H', rt := Q } (L2.start N vs) H := by
  refine ⟨F0, S0, startU N us, _, sr, ?_, h, ?_⟩
  · have e := rs.toER (n := N.length - us.length)
    unfold startU
    rw [← rs.length] at e ⊢
    exact e
  · exact ⟨fun ρ' S' h F' H' σ' e s' er => l _ _ h F' H' _ e s' .non, l, fun _ _ z => z.elim, fun _ _ z => z.elim⟩
/-- FnB of a def: its body's reading, at each entry -/
theorem fnB_of {P : Program} {w : World} {K : PySem.W.Frag} {mg : Str → Option Value} {base : Heap} {gd : Bool} {x qual : Str} {st : Stmt} {f : Addr} {fd : FuncData} {N ps : List Str} {k : Nat} {sp : Sp} (Fu : Fun K x qual st f fd) (S : FnScope N ps (defScope st)) (len : ∀ vs H Q E, sp vs H Q E → vs.length = ps.length)
    (hbody : ∀ (cdv : Value) (A : Around) (outer : List PySem.Env) (s : Shared) (H : Hp) (vs : List V) (Q : VK) (E : XK), (gd = true → A.guards = some []) → Room k (A.deeper (envOfC qual (defScope st) s.heap.objs.size f cdv)) → sp vs H Q E →
      ∃ t, PSs (cxOf (L2.CX P w) P w K mg base N qual (defScope st) f cdv A outer s H E) (defBody st) t ∧ t { nx := fun _ H' => Q .non H', rt := Q } (L2.start N vs) H) : FnB gd P w K mg base (k + 1) f fd ps sp := by
  obtain ⟨oc, od, kV, doc, pm, an, cdv, ct, osl, rfl, lk, hcd⟩ := Fu.ex
  refine ⟨len, fun A outer s H ar us vs Q E hgd hr e0 hb r hsp => ?_⟩
  have hl := len _ _ _ _ hsp
  have kin : K.In s.heap := e0.mod.kin.keeps fun b o e => (e0.bs b o e).1
  have lim : s.heap.NoLimit := e0.mod.nolimit.keeps fun b o e => (e0.bs b o e).1
  have kinds : ∀ y ∈ ps.zip us, (defScope st).names.lookup y.1 = some .local ∨ ((defScope st).names.lookup y.1 = some .cell ∧ ((cellsFrom (s.heap.objs.size + 1) (defScope st).names []).lookup y.1).isSome = true) := by
    rintro ⟨n, v⟩ hy
    rcases S.par n (List.of_mem_zip hy).1 with q | q
    · exact .inl q
    · exact .inr ⟨q, PySem.W.cellsFrom_some _ _ _ (.inl q)⟩
  refine codeAny_call_function hr.depth (kin _ _ lk) rfl S.co S.gen rfl (PySem.W.codeRec_of kin hcd) (hb _ _ _ _ ?_)
  refine wpAny_newFunctionEnv_cells S.kind kinds fun env he z1 x => ?_
  subst he
  refine ⟨lim.keeps x.toInCall.keep, codeAny_func ?_⟩
  obtain ⟨t, ht, hq⟩ := hbody cdv A outer s H vs Q E hgd (hr.deeper _) hsp
  have I := inv_start (CX := L2.CX P w) (E := E) (N := N) S hr.hd e0 hl r x
  refine wpAny_mono (ht.run [] z1 (L2.start N vs) H _ I hq) (fun fl y hy => ?_) fun e y hy => hy
  match fl, hy with
  | .ret u, ⟨v, σ', H', J, rv, q⟩ => exact ⟨v, H', J.os, J.bare, J.base, J.hok, rv, q⟩
  | .next, ⟨σ', H', J, q⟩ => exact ⟨V.non, H', J.os, J.bare, J.base, J.hok, rfl, q⟩
  | .brk, ⟨_, _, _, q⟩ => exact q.elim
  | .cont, ⟨_, _, _, q⟩ => exact q.elim
/-- a def by its body: the small text b stands for the body, and from arguments for which sp asks, b's wishes hold -/
theorem def_ok {cl : List Addr} {P : Program} {w : World} {K : PySem.W.Frag} {mg : Str → Option Value} {base : Heap} {x qual : Str} {st : Stmt} {f : Addr} {fd : FuncData} {N ps : List Str} {sp : FS} {b : Cms}
    (B : Base g G cl ecl k P w K mg base) (F : Fun K x qual st f fd) (hb : L2.Binds K fd ps []) (S : FnScope N ps (defScope st)) (hn : sp.n = ps.length) (hc : chkSs g N b (defScope st) (defBody st) = true)
    (h : ∀ us S R RX, us.length = ps.length → sp.sp us S R RX → wCms G (fun x _ S' => RX x S') b (startU N us) S { nx := fun _ S' => R .non S', rt := R }) :
    DefOk G.gd P w K mg base cl ecl (k + 2) f sp := by
  refine ⟨fd, ps, fnB_of (k := k + 1) F S (fun vs H Q E hv => hv.1.trans hn) (fun cdv A outer s H vs Q E hgd hr hsp => ?_), hb⟩
  obtain ⟨hl, F0, S0, us, R, RX, sr, rs, hsp, lx, l⟩ := hsp
  exact ⟨_, okSs b (defX B S hr hgd (fun x ρ S' hx F' H' σ' d C sr' _ xa hC => lx x S' hx F' H' d C sr' xa hC)) ⟨fun _ => rfl, rfl, rfl⟩ hc, defR (ps := ps) S0 sr rs (by rw [hl, hn]) (h us S0 R RX (by rw [← rs.length, hl, hn]) hsp) l⟩
end
end Mm
/-! MmM: the calculus: weakening, cuts, loops -/
namespace Mm
open PySem PySem.Spec PyProof.Rows L2
def SpMono (sp : Spec) : Prop := ∀ us S (R R' : Post) (RX RX' : Xn → Sto → Prop), (∀ x S, RX x S → RX' x S) → (∀ u S, R u S → R' u S) → sp us S R RX → sp us S R' RX'
structure GMono (G : GV) : Prop where
  fn : ∀ sp ∈ G.fns, SpMono sp.sp
  cl : ∀ c ∈ G.cls, SpMono c.init.sp ∧ ∀ sp ∈ c.meths, SpMono sp.sp
structure OutLe (D D' : Out) : Prop where
  nx : ∀ ρ S, D.nx ρ S → D'.nx ρ S
  rt : ∀ u S, D.rt u S → D'.rt u S
  bk : ∀ ρ S, D.bk ρ S → D'.bk ρ S
  ct : ∀ ρ S, D.ct ρ S → D'.ct ρ S
theorem alloc_mono {m xs S} {R R' : Post} (h : ∀ u S, R u S → R' u S) (a : alloc m xs S R) : alloc m xs S R' := by
  unfold alloc at *
  cases m with
  | true => rw [if_pos rfl] at *; exact fun p hp => h _ _ (a p hp)
  | false => rw [if_neg Bool.false_ne_true] at *; exact h _ _ a
theorem bopW_mono {o m x y S} {R R' : Post} (h : ∀ u S, R u S → R' u S) (a : bopW o m x y S R) : bopW o m x y S R' := by
  unfold bopW at *
  split <;> simp only at a <;> first
    | exact h _ _ a
    | exact a
    | exact ⟨a.1, h _ _ a.2⟩
    | (obtain ⟨xs, ys, h1, h2, h3, h4⟩ := a; exact ⟨xs, ys, h1, h2, h3, alloc_mono h h4⟩)
    | (obtain ⟨xs, h1, h2, h3, h4, h5⟩ := a; exact ⟨xs, h1, h2, h3, h4, alloc_mono h h5⟩)
    | (obtain ⟨h1, h2, h3, h4⟩ := a; exact ⟨h1, h2, h3, h _ _ h4⟩)
theorem eqW_mono {x y S} {k k' : Bool → Prop} (h : ∀ b, k b → k' b) (a : eqW x y S k) : eqW x y S k' := by
  unfold eqW at *
  split <;> simp only at a <;> first
    | exact h _ a
    | (obtain ⟨x', y', h1, h2, h3, h4, h5⟩ := a; exact ⟨x', y', h1, h2, h3, h4, h _ h5⟩)
theorem inW_mono {x y S} {k k' : Bool → Prop} (h : ∀ b, k b → k' b) (a : inW x y S k) : inW x y S k' := by
  unfold inW at *
  split at a
  · obtain ⟨c, h1, h2⟩ := a; exact ⟨c, h1, h _ h2⟩
  · obtain ⟨c, h1, h2⟩ := a; exact ⟨c, h1, h _ h2⟩
  · split at a
    · exact ⟨a.1, a.2.1, h _ a.2.2⟩
    · obtain ⟨c, h1, h2⟩ := a; exact ⟨c, h1, h _ h2⟩
    · obtain ⟨t, q, h1, h2, h3, h4⟩ := a; exact ⟨t, q, h1, h2, h3, h _ h4⟩
    · exact a
  · obtain ⟨ys, h1, h2, h3, h4⟩ := a
    exact ⟨ys, h1, h2, h3, h _ h4⟩
theorem copW_mono {o x y S} {k k' : Bool → Prop} (h : ∀ b, k b → k' b) (a : copW o x y S k) : copW o x y S k' := by
  unfold copW at *
  cases o with
  | eq => exact eqW_mono h a
  | ne => exact eqW_mono (fun b => h _) a
  | isin => exact inW_mono h a
  | notin => exact inW_mono (fun b => h _) a
  | _ => simp only at *; split <;> simp only at a <;> first | exact h _ a | exact a
theorem idxW_mono {x i S} {R R' : Post} (h : ∀ u S, R u S → R' u S) (a : idxW x i S R) : idxW x i S R' := by
  unfold idxW at *
  split <;> simp only at a
  · obtain ⟨h1, c, h2, h3⟩ := a; exact ⟨h1, c, h2, h _ _ h3⟩
  · obtain ⟨xs, u, h1, h2, h3⟩ := a; exact ⟨xs, u, h1, h2, h _ _ h3⟩
  · obtain ⟨xs, u, h1, h2, h3⟩ := a; exact ⟨xs, u, h1, h2, h _ _ h3⟩
  · obtain ⟨xs, q, n, h1, h2, h3, h4, h5⟩ := a; exact ⟨xs, q, n, h1, h2, h3, h4, h _ _ h5⟩
theorem slcW_mono {m x lo hi S} {R R' : Post} (h : ∀ u S, R u S → R' u S) (a : slcW m x lo hi S R) : slcW m x lo hi S R' := by
  unfold slcW at *
  split <;> simp only at a
  · exact ⟨a.1, h _ _ a.2⟩
  · exact h _ _ a
  · obtain ⟨xs, h1, h2⟩ := a; exact ⟨xs, h1, alloc_mono h h2⟩
theorem bltW_mono {b us S} {R R' : Post} (h : ∀ u S, R u S → R' u S) (a : bltW b us S R) : bltW b us S R' := by
  unfold bltW at *
  split <;> simp only at a <;> first
    | exact h _ _ a
    | exact a
    | (obtain ⟨n, h1, h2⟩ := a; exact ⟨n, h1, h _ _ h2⟩)
    | (obtain ⟨n, bs, h1, h2, h3⟩ := a; exact ⟨n, bs, h1, h2, h _ _ h3⟩)
    | (obtain ⟨n, h1, h2⟩ := a; exact ⟨n, h1, alloc_mono h h2⟩)
    | (obtain ⟨xs, ns, h1, h2, h3⟩ := a; exact ⟨xs, ns, h1, h2, fun ns' p q => alloc_mono h (h3 ns' p q)⟩)
    | (obtain ⟨kvs, h0, ts, h1, h2, h3⟩ := a; exact ⟨kvs, h0, ts, h1, h2, fun ns' p q => alloc_mono h (h3 ns' p q)⟩)
theorem mthW_mono {m o us S} {R R' : Post} (h : ∀ u S, R u S → R' u S) (a : mthW m o us S R) : mthW m o us S R' := by
  unfold mthW at *
  split <;> simp only at a <;> first
    | exact a
    | (obtain ⟨xs, h1, h2, h3⟩ := a; exact ⟨xs, h1, h2, h _ _ h3⟩)
    | (obtain ⟨xs, x, h1, h2, h3⟩ := a; exact ⟨xs, x, h1, h2, h _ _ h3⟩)
    | (obtain ⟨xs, x, h1, h2, h3, h4⟩ := a; exact ⟨xs, x, h1, h2, h3, h _ _ h4⟩)
    | (obtain ⟨xs, h1, h2, h3, h4, h5⟩ := a; exact ⟨xs, h1, h2, h3, h4, h _ _ h5⟩)
theorem fmtW_mono {x S} {R R' : Post} (h : ∀ u S, R u S → R' u S) (a : fmtW x S R) : fmtW x S R' := by
  unfold fmtW at *
  split <;> simp only at a
  exact ⟨a.1, h _ _ a.2⟩
theorem tgW_mono {g u ρ} {k k' : Env → Prop} (h : ∀ ρ, k ρ → k' ρ) (a : tgW g u ρ k) : tgW g u ρ k' := by
  unfold tgW at *
  split <;> simp only at a
  · exact h _ a
  · split at a
    · obtain ⟨ρ', h1, h2⟩ := a; exact ⟨ρ', h1, h _ h2⟩
    · exact a
theorem setIxW_mono {x y u S} {k k' : Sto → Prop} (h : ∀ S, k S → k' S) (a : setIxW x y u S k) : setIxW x y u S k' := by
  unfold setIxW at *
  split <;> simp only at a
  · split at a
    · obtain ⟨i, j, h1, h2, h3⟩ := a; exact ⟨i, j, h1, h2, h _ h3⟩
    · obtain ⟨q, h1, h2, h3⟩ := a; exact ⟨q, h1, h2, h _ h3⟩
    · obtain ⟨l, q, n, h1, h2, h3, h4, h5, h6⟩ := a; exact ⟨l, q, n, h1, h2, h3, h4, h5, h _ h6⟩
    · exact a
theorem OutLe.refl {D : Out} : OutLe D D := ⟨fun _ _ h => h, fun _ _ h => h, fun _ _ h => h, fun _ _ h => h⟩
theorem OutLe.loop {D D' : Out} (l : OutLe D D') (N : Env → Sto → Prop) : OutLe { nx := N, ct := N, bk := D.nx, rt := D.rt } { nx := N, ct := N, bk := D'.nx, rt := D'.rt } := ⟨fun _ _ h => h, l.rt, l.nx, fun _ _ h => h⟩
theorem OutLe.seq {D D' : Out} (l : OutLe D D') {P P' : Env → Sto → Prop} (h : ∀ ρ S, P ρ S → P' ρ S) : OutLe { D with nx := P } { D' with nx := P' } := ⟨h, l.rt, l.bk, l.ct⟩
theorem OutLe.body {D : Out} {N N' : Env → Sto → Prop} (h : ∀ ρ S, N ρ S → N' ρ S) : OutLe { nx := N, ct := N, bk := D.nx, rt := D.rt } { nx := N', ct := N', bk := D.nx, rt := D.rt } := ⟨h, fun _ _ h => h, fun _ _ h => h, h⟩
theorem forW_mono {g gd} {body body' : Env → Sto → Out → Prop} (hb : ∀ ρ S D D', OutLe D D' → body ρ S D → body' ρ S D') : ∀ (xs : List U) {ρ S D D'}, OutLe D D' → forW g gd body D xs ρ S → forW g gd body' D' xs ρ S
  | [], ρ, S, D, D', l, h => ⟨h.1, l.nx _ _ h.2⟩
  | x :: xs, ρ, S, D, D', l, h => ⟨h.1, tgW_mono (fun ρ' h => hb ρ' S { nx := forW g gd body D xs, ct := forW g gd body D xs, bk := D.nx, rt := D.rt } { nx := forW g gd body' D' xs, ct := forW g gd body' D' xs, bk := D'.nx, rt := D'.rt } ⟨fun _ _ => forW_mono hb xs l, l.rt, l.nx, fun _ _ => forW_mono hb xs l⟩ h) h.2⟩
theorem lcW_mono {m own g gd} {c : Env → Sto → (Bool → Sto → Prop) → Prop} {e : Env → Sto → Post → Prop} (hc : ∀ ρ S R R', (∀ b S, R b S → R' b S) → c ρ S R → c ρ S R') (he : ∀ ρ S (R R' : Post), (∀ b S, R b S → R' b S) → e ρ S R → e ρ S R') {ρ : Env} {R R' : Post} (h : ∀ u S, R u S → R' u S) :
    ∀ (xs acc : List U) {S}, lcW m own g gd c e R ρ xs acc S → lcW m own g gd c e R' ρ xs acc S
  | [], acc, S, a => ⟨a.1, alloc_mono h a.2⟩
  | x :: xs, acc, S, a => ⟨a.1, tgW_mono (fun ρ2 a => hc _ _ _ _ (fun b S1 a => by
      cases b with
      | true => rw [if_pos rfl] at *; exact he _ _ _ _ (fun y S2 a => ⟨a.1, lcW_mono hc he h xs _ a.2⟩) a
      | false => rw [if_neg Bool.false_ne_true] at *; exact lcW_mono hc he h xs _ a) a) a.2⟩
theorem srtW_mono {m acc S} {R R' : Post} (h : ∀ u S, R u S → R' u S) (a : srtW m R acc S) : srtW m R' acc S := ⟨a.1, fun ns h1 h2 => alloc_mono h (a.2 ns h1 h2)⟩
theorem scW_mono {own g gd} {c : Env → Sto → (Bool → Sto → Prop) → Prop} {e : Env → Sto → Post → Prop} (hc : ∀ ρ S R R', (∀ b S, R b S → R' b S) → c ρ S R → c ρ S R') (he : ∀ ρ S (R R' : Post), (∀ b S, R b S → R' b S) → e ρ S R → e ρ S R') {ρ : Env} {K K' : List Int → Sto → Prop} (h : ∀ u S, K u S → K' u S) :
    ∀ (xs : List U) (acc : List Int) {S}, scW own g gd c e K ρ xs acc S → scW own g gd c e K' ρ xs acc S
  | [], acc, S, a => ⟨a.1, h _ _ a.2⟩
  | x :: xs, acc, S, a => ⟨a.1, tgW_mono (fun ρ2 a => hc _ _ _ _ (fun b S1 a => by
      cases b with
      | true => rw [if_pos rfl] at *; exact he _ _ _ _ (fun y S2 a => let ⟨n, h1, h2, h3⟩ := a; ⟨n, h1, h2, scW_mono hc he h xs _ h3⟩) a
      | false => rw [if_neg Bool.false_ne_true] at *; exact scW_mono hc he h xs _ a) a) a.2⟩
theorem liW_mono {vs g gd} {c : Env → Sto → (Bool → Sto → Prop) → Prop} {e : Env → Sto → Post → Prop} (hc : ∀ ρ S R R', (∀ b S, R b S → R' b S) → c ρ S R → c ρ S R') (he : ∀ ρ S (R R' : Post), (∀ b S, R b S → R' b S) → e ρ S R → e ρ S R') {ρ : Env} {K K' : List U → Sto → Prop} (h : ∀ u S, K u S → K' u S) :
    ∀ (xs : List U) (acc : List U) {S}, liW vs g gd c e K ρ xs acc S → liW vs g gd c e K' ρ xs acc S
  | [], acc, S, a => ⟨a.1, h _ _ a.2⟩
  | x :: xs, acc, S, a => ⟨a.1, tgW_mono (fun ρ2 a => hc _ _ _ _ (fun b S1 a => by
      cases b with
      | true => rw [if_pos rfl] at *; exact he _ _ _ _ (fun y S2 a => ⟨a.1, liW_mono hc he h xs _ a.2⟩) a
      | false => rw [if_neg Bool.false_ne_true] at *; exact liW_mono hc he h xs _ a) a) a.2⟩
theorem loW_mono {m own vs g gd g1} {c c1 : Env → Sto → (Bool → Sto → Prop) → Prop} {w1 : Env → Sto → (List U → (Sto → Prop) → Sto → Prop) → Prop} {e : Env → Sto → Post → Prop} (hc : ∀ ρ S R R', (∀ b S, R b S → R' b S) → c ρ S R → c ρ S R') (hw : ∀ ρ S (R R' : List U → (Sto → Prop) → Sto → Prop), (∀ u g S, R u g S → R' u g S) → w1 ρ S R → w1 ρ S R') (hc1 : ∀ ρ S R R', (∀ b S, R b S → R' b S) → c1 ρ S R → c1 ρ S R') (he : ∀ ρ S (R R' : Post), (∀ b S, R b S → R' b S) → e ρ S R → e ρ S R') {ρ : Env} {R R' : Post} (h : ∀ u S, R u S → R' u S) :
    ∀ (xs acc : List U) {S}, loW m own vs g gd c w1 g1 c1 e R ρ xs acc S → loW m own vs g gd c w1 g1 c1 e R' ρ xs acc S
  | [], acc, S, a => ⟨a.1, alloc_mono h a.2⟩
  | x :: xs, acc, S, a => ⟨a.1, tgW_mono (fun ρ2 a => hc _ _ _ _ (fun b S1 a => by
      cases b with
      | true => rw [if_pos rfl] at *; exact hw _ _ _ _ (fun ys gd1 S2 a => liW_mono hc1 he (fun acc' S' a => loW_mono hc hw hc1 he h xs acc' a) ys _ a) a
      | false => rw [if_neg Bool.false_ne_true] at *; exact loW_mono hc hw hc1 he h xs acc a) a) a.2⟩
theorem wH_mono {G : GV} {x : Xn} {i : Option Nat} {D D' : Out} (l : OutLe D D') : ∀ (h : List Hs) {ρ : Env} {S : Sto}, wH G x i h ρ S D → wH G x i h ρ S D'
  | [], ρ, S, w => l.nx _ _ w
  | .ret e :: _, ρ, S, w => hev_mono e (fun u h => l.rt _ _ h) w
  | .set j e :: r, ρ, S, w => ⟨w.1, hev_mono e (fun u h => wH_mono l r h) w.2⟩
  | .pas :: r, ρ, S, w => wH_mono l r (ρ := ρ) (S := S) w
theorem wHm_mono {G : GV} {x : Xn} {D D' : Out} {RX RX' : RXn} (hx : ∀ x ρ S, RX x ρ S → RX' x ρ S) (l : OutLe D D') : ∀ (qs : List Cl) {ρ : Env} {S : Sto}, wHm G RX x D qs ρ S → wHm G RX' x D' qs ρ S
  | [], ρ, S, w => hx _ _ _ w
  | q :: r, ρ, S, w => by
    simp only [wHm] at w ⊢
    split
    · next e => rw [if_pos e] at w; exact ⟨w.1, wH_mono l _ w.2⟩
    · next e => rw [if_neg e] at w; exact wHm_mono hx l r w
section
variable {G : GV} (hG : GMono G) {RX : RXn}
include hG
mutual
theorem wE_mono : ∀ (e : E) {ρ : Env} {S : Sto} {R R' : Post} {RX RX' : RXn}, (∀ x ρ S, RX x ρ S → RX' x ρ S) → (∀ u S, R u S → R' u S) → wE G RX e ρ S R → wE G RX' e ρ S R'
  | .lit u, ρ, S, R, R', RX, RX', hx, h, a => h _ _ a
  | .var i, ρ, S, R, R', RX, RX', hx, h, a => let ⟨u, h1, h2⟩ := a; ⟨u, h1, h _ _ h2⟩
  | .glb i, ρ, S, R, R', RX, RX', hx, h, a => let ⟨u, h1, h2⟩ := a; ⟨u, h1, h _ _ h2⟩
  | .bin o m a b, ρ, S, R, R', RX, RX', hx, h, w => wE_mono a hx (fun x S1 w => wE_mono b hx (fun y S2 w => bopW_mono h w) w) w
  | .neg a, ρ, S, R, R', RX, RX', hx, h, w => wE_mono a hx (fun x S1 w => by cases x <;> first | exact h _ _ w | exact w) w
  | .cmp o a b, ρ, S, R, R', RX, RX', hx, h, w => wE_mono a hx (fun x S1 w => wE_mono b hx (fun y S2 w => copW_mono (fun b => h _ _) w) w) w
  | .chain o p a b c, ρ, S, R, R', RX, RX', hx, h, w => wE_mono a hx (fun x S1 w => wE_mono b hx (fun y S2 w => copW_mono (fun k w => by
      cases k with
      | true => exact wE_mono c hx (fun z S3 w => copW_mono (fun b => h _ _) w) w
      | false => exact h _ _ w) w) w) w
  | .ands es, ρ, S, R, R', RX, RX', hx, h, w => wAnds_mono es hx h w
  | .ors es, ρ, S, R, R', RX, RX', hx, h, w => wOrs_mono es hx h w
  | .nt a, ρ, S, R, R', RX, RX', hx, h, w => wE_mono a hx (fun x S1 w => by cases x <;> first | exact h _ _ w | exact w) w
  | .ife t a b, ρ, S, R, R', RX, RX', hx, h, w => wT_mono t hx (fun k S1 w => by
      cases k with
      | true => exact wE_mono a hx h w
      | false => exact wE_mono b hx h w) w
  | .tup es, ρ, S, R, R', RX, RX', hx, h, w => wEs_mono es hx (fun us S1 w => ⟨w.1, h _ _ w.2⟩) w
  | .lst m es, ρ, S, R, R', RX, RX', hx, h, w => wEs_mono es hx (fun us S1 w => ⟨w.1, alloc_mono h w.2⟩) w
  | .idx a i, ρ, S, R, R', RX, RX', hx, h, w => wE_mono a hx (fun x S1 w => wE_mono i hx (fun y S2 w => idxW_mono h w) w) w
  | .slc m a lo hi, ρ, S, R, R', RX, RX', hx, h, w => wE_mono a hx (fun x S1 w => wO_mono lo hx (fun y S2 w => wO_mono hi hx (fun z S3 w => slcW_mono h w) w) w) w
  | .lc m own g it c e, ρ, S, R, R', RX, RX', hx, h, w => wI_mono it hx (ρ := ρ) (S := S) (RX := RX) (RX' := RX') (R := fun xs gd S1 => lcW m (own.map (fun p : Str × Nat => p.2)) g gd (fun ρ S k => wT G (fun _ _ _ => False) c ρ S k) (fun ρ S R => wE G (fun _ _ _ => False) e ρ S R) R ρ xs [] S1) (R' := fun xs gd S1 => lcW m (own.map (fun p : Str × Nat => p.2)) g gd (fun ρ S k => wT G (fun _ _ _ => False) c ρ S k) (fun ρ S R => wE G (fun _ _ _ => False) e ρ S R) R' ρ xs [] S1)
      (fun xs gd S1 w => lcW_mono (c := fun ρ S k => wT G (fun _ _ _ => False) c ρ S k) (e := fun ρ S R => wE G (fun _ _ _ => False) e ρ S R) (fun _ _ _ _ h w => wT_mono c (fun _ _ _ z => z) h w) (fun _ _ _ _ h w => wE_mono e (fun _ _ _ z => z) h w) h xs [] w) w
  | .call f es, ρ, S, R, R', RX, RX', hx, h, w => let ⟨sp, h1, h2⟩ := w; ⟨sp, h1, wEs_mono es hx (fun us S1 w => ⟨w.1, hG.fn sp (List.mem_of_getElem? h1) _ _ _ _ _ _ (fun x S z => hx x ρ S z) h w.2⟩) h2⟩
  | .blt b es, ρ, S, R, R', RX, RX', hx, h, w => wEs_mono es hx (fun us S1 w => bltW_mono h w) w
  | .isi a t, ρ, S, R, R', RX, RX', hx, h, w => wE_mono a hx (fun x S1 w => let ⟨t', b, h1, h2, h3⟩ := w; ⟨t', b, h1, h2, h _ _ h3⟩) w
  | .meth m o es, ρ, S, R, R', RX, RX', hx, h, w => wE_mono o hx (fun x S1 w => ⟨w.1, wEs_mono es hx (fun us S2 w => mthW_mono h w) w.2⟩) w
  | .fld o f, ρ, S, R, R', RX, RX', hx, h, w => wE_mono o hx (fun x S1 w => let ⟨a, c, fs, u, h1, h2, h3, h4, h5⟩ := w; ⟨a, c, fs, u, h1, h2, h3, h4, h _ _ h5⟩) w
  | .omt c m o es, ρ, S, R, R', RX, RX', hx, h, w => let ⟨cv, sp, h1, h2, h3⟩ := w; ⟨cv, sp, h1, h2, wE_mono o hx (fun x S1 w => let ⟨a, fs, h4, h5, h6, h7⟩ := w; ⟨a, fs, h4, h5, h6, wEs_mono es hx (fun us S2 w => ⟨w.1, (hG.cl cv (List.mem_of_getElem? h1)).2 sp (List.mem_of_getElem? h2) _ _ _ _ _ _ (fun x S z => hx x ρ S z) h w.2⟩) h7⟩) h3⟩
  | .mk c es, ρ, S, R, R', RX, RX', hx, h, w => let ⟨cv, h1, h2⟩ := w; ⟨cv, h1, wEs_mono es hx (fun us S1 w => ⟨w.1, fun a ha => (hG.cl cv (List.mem_of_getElem? h1)).1 _ _ _ _ _ _ (fun _ _ z => z) (fun u S2 w => ⟨w.1, h _ _ w.2⟩) (w.2 a ha)⟩) h2⟩
  | .fstr es, ρ, S, R, R', RX, RX', hx, h, w => wJ_mono es hx (fun s S1 w => h _ _ w) w
  | .fmt a, ρ, S, R, R', RX, RX', hx, h, w => wE_mono a hx (fun x S1 w => fmtW_mono h w) w
  | .frz a, ρ, S, R, R', RX, RX', hx, h, w => wE_mono a hx (fun x S1 w => let ⟨b, xs, h1, h2, h3⟩ := w; ⟨b, xs, h1, h2, h _ _ h3⟩) w
  | .rev m a, ρ, S, R, R', RX, RX', hx, h, w => wE_mono a hx (fun x S1 w => let ⟨xs, h1, h2⟩ := w; ⟨xs, h1, alloc_mono h h2⟩) w
  | .revT a, ρ, S, R, R', RX, RX', hx, h, w => wE_mono a hx (fun x S1 w => by cases x <;> first | exact h _ _ w | exact w) w
  | .repr a, ρ, S, R, R', RX, RX', hx, h, w => wE_mono a hx (fun x S1 w => ⟨w.1, w.2.1, h _ _ w.2.2⟩) w
  | .dct0, ρ, S, R, R', RX, RX', hx, h, w => fun a ha => h _ _ (w a ha)
  | .dnk0, ρ, S, R, R', RX, RX', hx, h, w => fun a ha => h _ _ (w a ha)
  | .dget o k d, ρ, S, R, R', RX, RX', hx, h, w => wE_mono o hx (fun x S1 w => ⟨w.1, wE_mono k hx (fun y S2 w => wE_mono d hx (fun z S3 w => let ⟨kvs, q, h1, h2, h3⟩ := w; ⟨kvs, q, h1, h2, h _ _ h3⟩) w) w.2⟩) w
  | .srts m a, ρ, S, R, R', RX, RX', hx, h, w => wE_mono a hx (fun x S1 w => let ⟨xs, ns, h1, h2, h3⟩ := w; ⟨xs, ns, h1, h2, srtW_mono h h3⟩) w
  | .srtsc m own g it c e, ρ, S, R, R', RX, RX', hx, h, w => wI_mono it hx (ρ := ρ) (S := S) (RX := RX) (RX' := RX') (R := fun xs gd S1 => scW (own.map (fun p : Str × Nat => p.2)) g gd (fun ρ S k => wT G (fun _ _ _ => False) c ρ S k) (fun ρ S R => wE G (fun _ _ _ => False) e ρ S R) (srtW m R) ρ xs [] S1) (R' := fun xs gd S1 => scW (own.map (fun p : Str × Nat => p.2)) g gd (fun ρ S k => wT G (fun _ _ _ => False) c ρ S k) (fun ρ S R => wE G (fun _ _ _ => False) e ρ S R) (srtW m R') ρ xs [] S1)
      (fun xs gd S1 w => scW_mono (c := fun ρ S k => wT G (fun _ _ _ => False) c ρ S k) (e := fun ρ S R => wE G (fun _ _ _ => False) e ρ S R) (fun _ _ _ _ h w => wT_mono c (fun _ _ _ z => z) h w) (fun _ _ _ _ h w => wE_mono e (fun _ _ _ z => z) h w) (fun _ _ w => srtW_mono h w) xs [] w) w
  | .lc2 m own vs g it c g1 it1 c1 e, ρ, S, R, R', RX, RX', hx, h, w => wI_mono it hx (ρ := ρ) (S := S) (RX := RX) (RX' := RX') (R := fun xs gd S1 => loW m (own.map (fun p : Str × Nat => p.2)) vs g gd (fun ρ S k => wT G (fun _ _ _ => False) c ρ S k) (fun ρ S k => wI G (fun _ _ _ => False) it1 ρ S k) g1 (fun ρ S k => wT G (fun _ _ _ => False) c1 ρ S k) (fun ρ S R => wE G (fun _ _ _ => False) e ρ S R) R ρ xs [] S1) (R' := fun xs gd S1 => loW m (own.map (fun p : Str × Nat => p.2)) vs g gd (fun ρ S k => wT G (fun _ _ _ => False) c ρ S k) (fun ρ S k => wI G (fun _ _ _ => False) it1 ρ S k) g1 (fun ρ S k => wT G (fun _ _ _ => False) c1 ρ S k) (fun ρ S R => wE G (fun _ _ _ => False) e ρ S R) R' ρ xs [] S1)
      (fun xs gd S1 w => loW_mono (c := fun ρ S k => wT G (fun _ _ _ => False) c ρ S k) (w1 := fun ρ S k => wI G (fun _ _ _ => False) it1 ρ S k) (c1 := fun ρ S k => wT G (fun _ _ _ => False) c1 ρ S k) (e := fun ρ S R => wE G (fun _ _ _ => False) e ρ S R) (fun _ _ _ _ h w => wT_mono c (fun _ _ _ z => z) h w) (fun _ _ _ _ h w => wI_mono it1 (fun _ _ _ z => z) h w) (fun _ _ _ _ h w => wT_mono c1 (fun _ _ _ z => z) h w) (fun _ _ _ _ h w => wE_mono e (fun _ _ _ z => z) h w) h xs [] w) w
  | .gst a, ρ, S, R, R', RX, RX', hx, h, w => wE_mono a hx (fun x S1 w => let ⟨y, S2, h1, h2⟩ := w; ⟨y, S2, h1, h _ _ h2⟩) w
  | .dct1 a b, ρ, S, R, R', RX, RX', hx, h, w => wE_mono a hx (fun x S1 w => wE_mono b hx (fun y S2 w => let ⟨q, h1, h2⟩ := w; ⟨q, h1, fun p hp => h _ _ (h2 p hp)⟩) w) w
theorem wEs_mono : ∀ (es : Es) {ρ : Env} {S : Sto} {R R' : List U → Sto → Prop} {RX RX' : RXn}, (∀ x ρ S, RX x ρ S → RX' x ρ S) → (∀ u S, R u S → R' u S) → wEs G RX es ρ S R → wEs G RX' es ρ S R'
  | .nil, ρ, S, R, R', RX, RX', hx, h, w => h _ _ w
  | .cons e es, ρ, S, R, R', RX, RX', hx, h, w => wE_mono e hx (fun x S1 w => wEs_mono es hx (fun xs S2 w => h _ _ w) w) w
theorem wJ_mono : ∀ (es : Es) {acc : List Nat} {ρ : Env} {S : Sto} {R R' : List Nat → Sto → Prop} {RX RX' : RXn}, (∀ x ρ S, RX x ρ S → RX' x ρ S) → (∀ u S, R u S → R' u S) → wJ G RX es acc ρ S R → wJ G RX' es acc ρ S R'
  | .nil, acc, ρ, S, R, R', RX, RX', hx, h, w => h _ _ w
  | .cons e es, acc, ρ, S, R, R', RX, RX', hx, h, w => wE_mono e hx (fun x S1 w => by cases x <;> first | exact ⟨w.1, wJ_mono es hx h w.2⟩ | exact w) w
theorem wAnds_mono : ∀ (es : Es) {ρ : Env} {S : Sto} {R R' : Post} {RX RX' : RXn}, (∀ x ρ S, RX x ρ S → RX' x ρ S) → (∀ u S, R u S → R' u S) → wAnds G RX es ρ S R → wAnds G RX' es ρ S R'
  | .nil, ρ, S, R, R', RX, RX', hx, h, w => w
  | .cons e .nil, ρ, S, R, R', RX, RX', hx, h, w => wE_mono e hx h w
  | .cons e (.cons e' es), ρ, S, R, R', RX, RX', hx, h, w => wE_mono e hx (fun x S1 w => by
      cases x <;> first | exact w | skip
      next b => cases b with
        | true => exact wAnds_mono (.cons e' es) hx h w
        | false => exact h _ _ w) w
theorem wOrs_mono : ∀ (es : Es) {ρ : Env} {S : Sto} {R R' : Post} {RX RX' : RXn}, (∀ x ρ S, RX x ρ S → RX' x ρ S) → (∀ u S, R u S → R' u S) → wOrs G RX es ρ S R → wOrs G RX' es ρ S R'
  | .nil, ρ, S, R, R', RX, RX', hx, h, w => w
  | .cons e .nil, ρ, S, R, R', RX, RX', hx, h, w => wE_mono e hx h w
  | .cons e (.cons e' es), ρ, S, R, R', RX, RX', hx, h, w => wE_mono e hx (fun x S1 w => by
      cases x <;> first | exact w | skip
      next b => cases b with
        | false => exact wOrs_mono (.cons e' es) hx h w
        | true => exact h _ _ w) w
theorem wT_mono : ∀ (t : T) {ρ : Env} {S : Sto} {R R' : Bool → Sto → Prop} {RX RX' : RXn}, (∀ x ρ S, RX x ρ S → RX' x ρ S) → (∀ u S, R u S → R' u S) → wT G RX t ρ S R → wT G RX' t ρ S R'
  | .val e, ρ, S, R, R', RX, RX', hx, h, w => wE_mono e hx (fun x S1 w => by cases x <;> first | exact h _ _ w | exact w) w
  | .tru e, ρ, S, R, R', RX, RX', hx, h, w => wE_mono e hx (fun x S1 w => let ⟨b, h1, h2⟩ := w; ⟨b, h1, h _ _ h2⟩) w
  | .cmp o a b, ρ, S, R, R', RX, RX', hx, h, w => wE_mono a hx (fun x S1 w => wE_mono b hx (fun y S2 w => copW_mono (fun b => h _ _) w) w) w
  | .chain o p a b c, ρ, S, R, R', RX, RX', hx, h, w => wE_mono a hx (fun x S1 w => wE_mono b hx (fun y S2 w => copW_mono (fun k w => by
      cases k with
      | true => exact wE_mono c hx (fun z S3 w => copW_mono (fun b => h _ _) w) w
      | false => exact h _ _ w) w) w) w
  | .ands ts, ρ, S, R, R', RX, RX', hx, h, w => wTAnds_mono ts hx h w
  | .ors ts, ρ, S, R, R', RX, RX', hx, h, w => wTOrs_mono ts hx h w
  | .nt t, ρ, S, R, R', RX, RX', hx, h, w => wT_mono t hx (fun b S1 w => h _ _ w) w
  | .yes, ρ, S, R, R', RX, RX', hx, h, w => h _ _ w
theorem wTAnds_mono : ∀ (ts : Ts) {ρ : Env} {S : Sto} {R R' : Bool → Sto → Prop} {RX RX' : RXn}, (∀ x ρ S, RX x ρ S → RX' x ρ S) → (∀ u S, R u S → R' u S) → wTAnds G RX ts ρ S R → wTAnds G RX' ts ρ S R'
  | .one t, ρ, S, R, R', RX, RX', hx, h, w => wT_mono t hx h w
  | .cons t ts, ρ, S, R, R', RX, RX', hx, h, w => wT_mono t hx (fun b S1 w => by
      cases b with
      | true => exact wTAnds_mono ts hx h w
      | false => exact h _ _ w) w
theorem wTOrs_mono : ∀ (ts : Ts) {ρ : Env} {S : Sto} {R R' : Bool → Sto → Prop} {RX RX' : RXn}, (∀ x ρ S, RX x ρ S → RX' x ρ S) → (∀ u S, R u S → R' u S) → wTOrs G RX ts ρ S R → wTOrs G RX' ts ρ S R'
  | .one t, ρ, S, R, R', RX, RX', hx, h, w => wT_mono t hx h w
  | .cons t ts, ρ, S, R, R', RX, RX', hx, h, w => wT_mono t hx (fun b S1 w => by
      cases b with
      | false => exact wTOrs_mono ts hx h w
      | true => exact h _ _ w) w
theorem wI_mono : ∀ (it : Mm.It) {ρ : Env} {S : Sto} {R R' : List U → (Sto → Prop) → Sto → Prop} {RX RX' : RXn}, (∀ x ρ S, RX x ρ S → RX' x ρ S) → (∀ u g S, R u g S → R' u g S) → wI G RX it ρ S R → wI G RX' it ρ S R'
  | .seq e, ρ, S, R, R', RX, RX', hx, h, w => wE_mono e hx (fun x S1 w => by
      cases x <;> first | exact h _ _ _ w | exact w | skip
      obtain ⟨xs, h1, h2⟩ := w; exact ⟨xs, h1, h _ _ _ h2⟩) w
  | .rng1 a, ρ, S, R, R', RX, RX', hx, h, w => wE_mono a hx (fun x S1 w => by cases x <;> first | exact ⟨w.1, h _ _ _ w.2⟩ | exact w) w
  | .rng2 a b, ρ, S, R, R', RX, RX', hx, h, w => wE_mono a hx (fun x S1 w => wE_mono b hx (fun y S2 w => by
      cases x <;> first | exact w | skip
      cases y <;> first | exact w | skip
      exact ⟨w.1, h _ _ _ w.2⟩) w) w
  | .rngD a b, ρ, S, R, R', RX, RX', hx, h, w => wE_mono a hx (fun x S1 w => wE_mono b hx (fun y S2 w => by
      cases x <;> first | exact w | skip
      cases y <;> first | exact w | skip
      exact ⟨w.1, h _ _ _ w.2⟩) w) w
  | .items a, ρ, S, R, R', RX, RX', hx, h, w => wE_mono a hx (fun x S1 w => by cases x <;> first | exact h _ _ _ w | exact w) w
  | .enum a, ρ, S, R, R', RX, RX', hx, h, w => wE_mono a hx (fun x S1 w => by
      cases x <;> first | exact h _ _ _ w | exact w | skip
      obtain ⟨xs, h1, h2⟩ := w; exact ⟨xs, h1, h _ _ _ h2⟩) w
  | .rvs a, ρ, S, R, R', RX, RX', hx, h, w => wE_mono a hx (fun x S1 w => by cases x <;> first | exact h _ _ _ w | exact w) w
theorem wO_mono : ∀ (o : O) {ρ : Env} {S : Sto} {R R' : Option Int → Sto → Prop} {RX RX' : RXn}, (∀ x ρ S, RX x ρ S → RX' x ρ S) → (∀ u S, R u S → R' u S) → wO G RX o ρ S R → wO G RX' o ρ S R'
  | .no, ρ, S, R, R', RX, RX', hx, h, w => h _ _ w
  | .so e, ρ, S, R, R', RX, RX', hx, h, w => wE_mono e hx (fun x S1 w => by cases x <;> first | exact h _ _ w | exact w) w
end
mutual
theorem wC_mono : ∀ (s : Cm) {ρ : Env} {S : Sto} {D D' : Out} {RX RX' : RXn}, (∀ x ρ S, RX x ρ S → RX' x ρ S) → OutLe D D' → wC G RX s ρ S D → wC G RX' s ρ S D'
  | .set i e, ρ, S, D, D', RX, RX', hx, l, w => wE_mono hG e hx (fun u S1 w => l.nx _ _ w) w
  | .setT is e, ρ, S, D, D', RX, RX', hx, l, w => wE_mono hG e hx (fun u S1 w => tgW_mono (fun ρ' w => l.nx _ _ w) w) w
  | .setIx o i e, ρ, S, D, D', RX, RX', hx, l, w => wE_mono hG e hx (fun u S1 w => wE_mono hG o hx (fun x S2 w => wE_mono hG i hx (fun y S3 w => setIxW_mono (fun S w => l.nx _ _ w) w) w) w) w
  | .setF o f e, ρ, S, D, D', RX, RX', hx, l, w => wE_mono hG e hx (fun u S1 w => wE_mono hG o hx (fun x S2 w => let ⟨a, c, fs, h1, h2, h3, h4, h5⟩ := w; ⟨a, c, fs, h1, h2, h3, h4, l.nx _ _ h5⟩) w) w
  | .aug i o e, ρ, S, D, D', RX, RX', hx, l, w => let ⟨x, h1, h2⟩ := w; ⟨x, h1, wE_mono hG e hx (fun y S1 w => by
      cases x <;> first | exact w | skip
      cases y <;> first | exact w | skip
      exact ⟨w.1, bopW_mono (fun z S2 w => l.nx _ _ w) w.2⟩) h2⟩
  | .ex e, ρ, S, D, D', RX, RX', hx, l, w => wE_mono hG e hx (fun u S1 w => l.nx _ _ w) w
  | .ret e, ρ, S, D, D', RX, RX', hx, l, w => wE_mono hG e hx (fun u S1 w => l.rt _ _ w) w
  | .retN, ρ, S, D, D', RX, RX', hx, l, w => l.rt _ _ w
  | .ite t a b, ρ, S, D, D', RX, RX', hx, l, w => wT_mono hG t hx (fun k S1 w => by
      cases k with
      | true => exact wCms_mono a hx l w
      | false => exact wCms_mono b hx l w) w
  | .whl t b, ρ, S, D, D', RX, RX', hx, l, w => let ⟨I, h0, h1⟩ := w; ⟨I, h0, fun n ρ S hI => wT_mono hG t hx (fun k S1 w => by
      cases k with
      | true => exact wCms_mono b hx (l.loop _) w
      | false => exact l.nx _ _ w) (h1 n ρ S hI)⟩
  | .for g it b, ρ, S, D, D', RX, RX', hx, l, w => wI_mono hG it hx (R := fun xs gd S1 => forW g gd (fun ρ S D => wCms G RX b ρ S D) D xs ρ S1) (R' := fun xs gd S1 => forW g gd (fun ρ S D => wCms G RX' b ρ S D) D' xs ρ S1) (fun xs gd S1 w => forW_mono (body := fun ρ S D => wCms G RX b ρ S D) (body' := fun ρ S D => wCms G RX' b ρ S D) (fun _ _ _ _ l w => wCms_mono b hx l w) xs l w) w
  | .brk, ρ, S, D, D', RX, RX', hx, l, w => l.bk _ _ w
  | .cnt, ρ, S, D, D', RX, RX', hx, l, w => l.ct _ _ w
  | .pas, ρ, S, D, D', RX, RX', hx, l, w => l.nx _ _ w
  | .mat e cs, ρ, S, D, D', RX, RX', hx, l, w => wE_mono hG e hx (fun u S1 w => wCs_mono cs hx l w) w
  | .tryN b, ρ, S, D, D', RX, RX', hx, l, w => wCms_mono b (fun _ _ _ z => z) l w
  | .never, ρ, S, D, D', RX, RX', hx, l, w => w
  | .rai c es, ρ, S, D, D', RX, RX', hx, l, w => let ⟨fl, h1, h0, h2⟩ := w; ⟨fl, h1, h0, wEs_mono hG es hx (fun us S1 w => ⟨w.1, hx _ _ _ w.2⟩) h2⟩
  | .rai0 c, ρ, S, D, D', RX, RX', hx, l, w => ⟨w.1, hx _ _ _ w.2⟩
  | .tryM b qs, ρ, S, D, D', RX, RX', hx, l, w => wCms_mono b (fun x ρ' S' w => wHm_mono hx l qs w) l w
theorem wCms_mono : ∀ (b : Cms) {ρ : Env} {S : Sto} {D D' : Out} {RX RX' : RXn}, (∀ x ρ S, RX x ρ S → RX' x ρ S) → OutLe D D' → wCms G RX b ρ S D → wCms G RX' b ρ S D'
  | .nil, ρ, S, D, D', RX, RX', hx, l, w => l.nx _ _ w
  | .cons s r, ρ, S, D, D', RX, RX', hx, l, w => wC_mono s hx (l.seq fun ρ' S' w => wCms_mono r hx l w) w
theorem wCs_mono : ∀ (cs : Cs) {u : U} {ρ : Env} {S : Sto} {D D' : Out} {RX RX' : RXn}, (∀ x ρ S, RX x ρ S → RX' x ρ S) → OutLe D D' → wCs G RX cs u ρ S D → wCs G RX' cs u ρ S D'
  | .nil, u, ρ, S, D, D', RX, RX', hx, l, w => l.nx _ _ w
  | .dflt b, u, ρ, S, D, D', RX, RX', hx, l, w => wCms_mono b hx l w
  | .cons ps b r, u, ρ, S, D, D', RX, RX', hx, l, w => ⟨w.1, by
      have w2 := w.2
      split <;> rename_i hq
      · rw [if_pos hq] at w2; exact wCms_mono b hx l w2
      · rw [if_neg hq] at w2; exact wCs_mono r hx l w2⟩
end
/-- a cut: behind the first statement Mid holds -/
theorem cut {s : Cm} {r : Cms} {ρ : Env} {S : Sto} {D : Out} (Mid : Env → Sto → Prop) (h1 : wC G RX s ρ S { D with nx := Mid }) (h2 : ∀ ρ' S', Mid ρ' S' → wCms G RX r ρ' S' D) : wCms G RX (.cons s r) ρ S D :=
  wC_mono hG s (fun _ _ _ z => z) (OutLe.refl.seq h2) h1
/-- a for loop by its invariant -/
theorem for_inv {g : Tg} {gd : Sto → Prop} {b : Cms} {D : Out} {xs : List U} {ρ : Env} {S : Sto} (I : Nat → Env → Sto → Prop) (h0 : I 0 ρ S)
    (hs : ∀ i x ρ S, xs[i]? = some x → I i ρ S → gd S ∧ tgW g x ρ fun ρ' => wCms G RX b ρ' S { nx := I (i + 1), ct := I (i + 1), bk := D.nx, rt := D.rt }) (hd : ∀ ρ S, I xs.length ρ S → gd S ∧ D.nx ρ S) :
    forW g gd (fun ρ S D => wCms G RX b ρ S D) D xs ρ S := by
  have key : ∀ (n i : Nat) (ρ : Env) (S : Sto), n = xs.length - i → i ≤ xs.length → I i ρ S → forW g gd (fun ρ S D => wCms G RX b ρ S D) D (xs.drop i) ρ S := by
    intro n
    induction n with
    | zero =>
      intro i ρ S hn hi h
      have e : i = xs.length := by omega
      subst e
      rw [List.drop_length]
      exact hd ρ S h
    | succ n ih =>
      intro i ρ S hn hi h
      have hlt : i < xs.length := by omega
      have hx : xs[i]? = some xs[i] := List.getElem?_eq_getElem hlt
      rw [len_drop hx]
      obtain ⟨h1, h2⟩ := hs i _ ρ S hx h
      exact ⟨h1, tgW_mono (fun ρ' w => wCms_mono hG b (fun _ _ _ z => z) (OutLe.body fun ρ S h => ih (i + 1) ρ S (by omega) hlt h) w) h2⟩
  exact key _ 0 ρ S rfl (Nat.zero_le _) h0
/-- a comprehension by its invariant: what is made so far, the store -/
theorem lc_inv {m : Bool} {own : List Nat} {g : Tg} {gd : Sto → Prop} {c : T} {e : E} {R : Post} {ρ : Env} {xs : List U} {S : Sto} (I : Nat → List U → Sto → Prop) (h0 : I 0 [] S)
    (hs : ∀ i x acc S, xs[i]? = some x → I i acc S → gd S ∧ tgW g x (wipeU ρ own) fun ρ2 => wT G noX c ρ2 S fun b S1 => if b then wE G noX e ρ2 S1 fun y S2 => acc.length < sizeLine ∧ I (i + 1) (acc ++ [y]) S2 else I (i + 1) acc S1)
    (hd : ∀ acc S, I xs.length acc S → gd S ∧ alloc m acc S R) : lcW m own g gd (fun ρ S k => wT G noX c ρ S k) (fun ρ S R => wE G noX e ρ S R) R ρ xs [] S := by
  have key : ∀ (n i : Nat) (acc : List U) (S : Sto), n = xs.length - i → i ≤ xs.length → I i acc S → lcW m own g gd (fun ρ S k => wT G noX c ρ S k) (fun ρ S R => wE G noX e ρ S R) R ρ (xs.drop i) acc S := by
    intro n
    induction n with
    | zero =>
      intro i acc S hn hi h
      have e : i = xs.length := by omega
      subst e
      rw [List.drop_length]
      exact hd acc S h
    | succ n ih =>
      intro i acc S hn hi h
      have hlt : i < xs.length := by omega
      have hx : xs[i]? = some xs[i] := List.getElem?_eq_getElem hlt
      rw [len_drop hx]
      obtain ⟨h1, h2⟩ := hs i _ acc S hx h
      refine ⟨h1, tgW_mono (fun ρ' w => wT_mono hG c (fun _ _ _ z => z) (fun b S1 w => ?_) w) h2⟩
      cases b with
      | true => rw [if_pos rfl] at *; exact wE_mono hG e (fun _ _ _ z => z) (fun y S2 w => ⟨w.1, ih (i + 1) _ S2 (by omega) hlt w.2⟩) w
      | false => rw [if_neg Bool.false_ne_true] at *; exact ih (i + 1) acc S1 (by omega) hlt w
  exact key _ 0 [] S rfl (Nat.zero_le _) h0
end
/-- a while loop by a word and a measure -/
theorem whl_inv {G : GV} {RX : RXn} {t : T} {b : Cms} {ρ : Env} {S : Sto} {D : Out} (I : Nat → Env → Sto → Prop) (n : Nat) (h0 : I n ρ S)
    (hs : ∀ n ρ S, I n ρ S → wT G RX t ρ S fun k S1 => if k then wCms G RX b ρ S1 { nx := fun ρ' S' => ∃ m, m < n ∧ I m ρ' S', ct := fun ρ' S' => ∃ m, m < n ∧ I m ρ' S', bk := D.nx, rt := D.rt } else D.nx ρ S1) : wC G RX (.whl t b) ρ S D := ⟨I, ⟨n, h0⟩, hs⟩
end Mm
/-! MmN: equations for reckoning -/
namespace Mm
open PySem PySem.Spec PyProof.Rows L2
section
variable {S : Sto} {R : Post} {k : Bool → Prop} {i j : Int} {a b c d e f : U} {xs ys l : List U} {p q : Addr} {s t : List Nat}
theorem n_al0 : alloc false xs S R = R (.lst xs) S := rfl
theorem n_al1 : alloc true xs S R = ∀ p, S p = none → R (.ref p) (S.put p (.lst xs)) := rfl
theorem n_add : bopW .add false (.int i) (.int j) S R = R (.int (i + j)) S := rfl
theorem n_addm {m : Bool} : bopW .add m (.int i) (.int j) S R = R (.int (i + j)) S := rfl
theorem n_adds {m : Bool} : bopW .add m (.str s) (.str t) S R = (s.length + t.length ≤ sizeLine ∧ R (.str (s ++ t)) S) := rfl
theorem n_addl {m : Bool} : bopW .add m (.lst xs) (.lst ys) S R = (xs.length + ys.length ≤ sizeLine ∧ alloc m (xs ++ ys) S R) := by
  simp [bopW, lstOf]
theorem n_sub {m : Bool} : bopW .sub m (.int i) (.int j) S R = R (.int (i - j)) S := rfl
theorem n_mul {m : Bool} : bopW .mul m (.int i) (.int j) S R = (mulOk i j ∧ R (.int (i * j)) S) := rfl
theorem n_fdiv {m : Bool} : bopW .fdiv m (.int i) (.int j) S R = ((0 < j ∧ j < 1073741824) ∧ R (.int (i / j)) S) := rfl
theorem n_mod {m : Bool} : bopW .mod m (.int i) (.int j) S R = (0 < j ∧ R (.int (i % j)) S) := rfl
theorem n_pow {m : Bool} : bopW .pow m (.int i) (.int j) S R = ((0 ≤ j ∧ j ≤ 1000000 ∧ i.natAbs < 2 ^ 64) ∧ R (.int (i ^ j.toNat)) S) := rfl
theorem n_muls {m : Bool} : bopW .mul m (.str s) (.int j) S R = (j < 2 ^ 20 ∧ s.length * j.toNat ≤ sizeLine ∧ -(2 ^ 20) < j ∧ R (.str (List.replicate j.toNat s).flatten) S) := rfl
theorem n_mull {m : Bool} : bopW .mul m (.lst xs) (.int j) S R = (j < 2 ^ 62 ∧ -(2 ^ 62) < j ∧ xs.length * j.toNat ≤ sizeLine ∧ alloc m (List.replicate j.toNat xs).flatten S R) := by
  simp [bopW, lstOf]
theorem n_eqi : copW .eq (.int i) (.int j) S k = k (i == j) := rfl
theorem n_eqs : copW .eq (.str s) (.str t) S k = k (s == t) := rfl
theorem n_nei : copW .ne (.int i) (.int j) S k = k (!(i == j)) := rfl
theorem n_nes : copW .ne (.str s) (.str t) S k = k (!(s == t)) := rfl
theorem n_eq : copW .eq a b S k = eqW a b S k := rfl
theorem n_ne : copW .ne a b S k = eqW a b S fun b => k (!b) := rfl
theorem n_lt : copW .lt (.int i) (.int j) S k = k (decide (i < j)) := rfl
theorem n_lts : copW .lt (.str s) (.str t) S k = k (decide (s < t)) := rfl
theorem n_le : copW .le (.int i) (.int j) S k = k (decide (i ≤ j)) := rfl
theorem n_les : copW .le (.str s) (.str t) S k = k (!decide (t < s)) := rfl
theorem n_gt : copW .gt (.int i) (.int j) S k = k (decide (j < i)) := rfl
theorem n_ge : copW .ge (.int i) (.int j) S k = k (decide (j ≤ i)) := rfl
theorem n_in : copW .isin a b S k = inW a b S k := rfl
theorem n_nin : copW .notin a b S k = inW a b S fun b => k (!b) := rfl
theorem n_isNN : copW .isN .non .non S k = k true := rfl
theorem n_int : bltW .int [.int i] S R = R (.int i) S := rfl
theorem n_intb {x : Bool} : bltW .int [.bl x] S R = R (.int (if x then 1 else 0)) S := rfl
theorem n_max : bltW .max2 [.int i, .int j] S R = R (.int (if j > i then j else i)) S := rfl
theorem n_min : bltW .min2 [.int i, .int j] S R = R (.int (if j < i then j else i)) S := rfl
theorem n_lenl : bltW .len [.lst xs] S R = R (.int xs.length) S := by simp [bltW, lenOf, seqOf, lisOf, lstOf]
theorem n_lent : bltW .len [.tup xs] S R = R (.int xs.length) S := by simp [bltW, lenOf, seqOf]
theorem n_lenls : bltW .len [.ls xs] S R = R (.int xs.length) S := by simp [bltW, lenOf, seqOf, lisOf]
theorem n_lens : bltW .len [.str s] S R = (s.length ≤ sizeLine ∧ R (.int s.length) S) := by
  simp only [bltW, lenOf]
  by_cases h : s.length ≤ sizeLine <;> simp [h]
theorem n_listl {m : Bool} : bltW (.list m) [.lst xs] S R = alloc m xs S R := by simp [bltW, seqOf, lisOf, lstOf]
theorem n_listt {m : Bool} : bltW (.list m) [.tup xs] S R = alloc m xs S R := by simp [bltW, seqOf]
theorem n_tuplel : bltW .tuple [.lst xs] S R = R (.tup xs) S := by simp [bltW, lisOf, lstOf]
theorem n_ixl : idxW (.lst xs) (.int i) S R = ∃ u, L2.atI xs i = some u ∧ R u S := by simp [idxW, seqOf, lisOf, lstOf]
theorem n_ixls : idxW (.ls xs) (.int i) S R = ∃ u, L2.atI xs i = some u ∧ R u S := by simp [idxW, seqOf, lisOf]
theorem n_ixt : idxW (.tup xs) (.int i) S R = ∃ u, L2.atI xs i = some u ∧ R u S := by simp [idxW, seqOf]
theorem n_ixs : idxW (.str s) (.int i) S R = (s.length ≤ sizeLine ∧ ∃ c, L2.atI s i = some c ∧ R (.str [c]) S) := rfl
theorem n_slcl {m : Bool} {lo hi : Option Int} : slcW m (.lst xs) lo hi S R = alloc m (cutU xs lo hi) S R := by simp [slcW, lisOf, lstOf]
theorem n_slcls {m : Bool} {lo hi : Option Int} : slcW m (.ls xs) lo hi S R = alloc m (cutU xs lo hi) S R := by simp [slcW, lisOf]
theorem n_slcs {m : Bool} {lo hi : Option Int} : slcW m (.str s) lo hi S R = (s.length ≤ sizeLine ∧ R (.str (cutU s lo hi)) S) := rfl
theorem n_joinT : mthTy .join (.str s) S = True := by simp [mthTy]
/-- what stands at a mutable list -/
def lstAt (S : Sto) (p : Addr) (K : List U → Prop) : Prop := match S p with
  | some (.lst xs) => K xs
  | _ => False
def insAt (S : Sto) (p : Addr) (K : Nat → List (Str × U) → Prop) : Prop := match S p with
  | some (.ins c fs) => K c fs
  | _ => False
theorem lstAt_ex {S : Sto} {p : Addr} {K : List U → Prop} : lstAt S p K ↔ ∃ xs, S p = some (.lst xs) ∧ K xs := by
  unfold lstAt
  constructor
  · intro h
    split at h
    · next xs e => exact ⟨xs, e, h⟩
    · exact h.elim
  · rintro ⟨xs, e, h⟩; rw [e]; exact h
theorem insAt_ex {S : Sto} {p : Addr} {K : Nat → List (Str × U) → Prop} : insAt S p K ↔ ∃ c fs, S p = some (.ins c fs) ∧ K c fs := by
  unfold insAt
  constructor
  · intro h
    split at h
    · next c xs e => exact ⟨c, xs, e, h⟩
    · exact h.elim
  · rintro ⟨c, xs, e, h⟩; rw [e]; exact h
def lenR (K : Nat → Prop) : Option Ob → Prop
  | some (.lst xs) => K xs.length
  | some (.dct kvs) => K kvs.length
  | some (.dnk kvs) => kvs.length ≤ sizeLine ∧ K kvs.length
  | _ => False
theorem n_lenr : bltW .len [.ref p] S R = lenR (fun n => R (.int n) S) (S p) := by
  apply propext
  simp only [bltW, lenOf]
  unfold lenR
  cases h : S p with
  | none => simp [h]
  | some o => cases o with
    | dnk kvs => by_cases hz : kvs.length ≤ sizeLine <;> simp [hz]
    | _ => simp
theorem n_lend {ks : List L2.Key} : bltW .len [.dct ks xs] S R = R (.int ks.length) S := by simp [bltW, lenOf]
theorem n_ixr : idxW (.ref p) (.int i) S R = lstAt S p fun xs => ∃ u, L2.atI xs i = some u ∧ R u S := by
  apply propext; rw [lstAt_ex]
  simp only [idxW, seqOf, lisOf, lstOf]
  constructor
  · rintro ⟨ys, u, h, r⟩
    split at h
    · next e => cases h; exact ⟨_, e, u, r⟩
    · cases h
  · rintro ⟨xs, e, u, h⟩; rw [e]; exact ⟨_, u, rfl, h⟩
theorem n_slcr {m : Bool} {lo hi : Option Int} : slcW m (.ref p) lo hi S R = lstAt S p fun xs => alloc m (cutU xs lo hi) S R := by
  apply propext; rw [lstAt_ex]
  simp only [slcW, lisOf, lstOf]
  constructor
  · rintro ⟨ys, h, r⟩
    split at h
    · next e => cases h; exact ⟨_, e, r⟩
    · cases h
  · rintro ⟨xs, e, h⟩; rw [e]; exact ⟨_, rfl, h⟩
def setI (p : Addr) (i : Int) (u : U) (S : Sto) (K : Sto → Prop) : Option Ob → Prop
  | some (.lst xs) => ∃ j, ixN xs.length i = some j ∧ K (S.put p (.lst (xs.set j u)))
  | some (.dct kvs) => kvs.length < sizeLine ∧ K (S.put p (.dct (putA kvs (.inl i) u)))
  | _ => False
theorem n_set {K : Sto → Prop} {u : U} : setIxW (.ref p) (.int i) u S K = setI p i u S K (S p) := by
  apply propext
  unfold setIxW setI
  cases h : S p with
  | none => simp [h]
  | some o => cases o <;> simp [keyU, h]
def setS (p : Addr) (t : List Nat) (u : U) (S : Sto) (K : Sto → Prop) : Option Ob → Prop
  | some (.dct kvs) => kvs.length < sizeLine ∧ K (S.put p (.dct (putA kvs (.inr ⟨t.toArray⟩) u)))
  | _ => False
theorem n_setS {K : Sto → Prop} {u : U} : setIxW (.ref p) (.str t) u S K = setS p t u S K (S p) := by
  apply propext
  unfold setIxW setS
  cases h : S p with
  | none => simp [h]
  | some o => cases o <;> simp [keyU, h]
theorem n_absi : bltW .abs [.int i] S R = R (.int (if i < 0 then -i else i)) S := rfl
theorem n_shl {m : Bool} : bopW .shl m (.int i) (.int j) S R = ((0 ≤ j ∧ j ≤ 1000000 ∧ i.natAbs < 2 ^ 64) ∧ R (.int (i * 2 ^ j.toNat)) S) := rfl
theorem n_shr {m : Bool} : bopW .shr m (.int i) (.int j) S R = (0 ≤ j ∧ R (.int (i / 2 ^ j.toNat)) S) := rfl
theorem n_band {m : Bool} : bopW .band m (.int i) (.int j) S R = R (.int (PySem.Builtin.bitAnd i j)) S := rfl
theorem n_inT {m : Mth} (h : m = .insert ∨ m = .remove) : mthTy m (.ref p) S = lstAt S p fun _ => True := by
  apply propext; rw [lstAt_ex]; rcases h with rfl | rfl <;> simp [mthTy]
theorem n_insT : mthTy .insert (.ref p) S = lstAt S p fun _ => True := n_inT (.inl rfl)
theorem n_remT : mthTy .remove (.ref p) S = lstAt S p fun _ => True := n_inT (.inr rfl)
theorem n_ins : mthW .insert (.ref p) [.int i, a] S R = lstAt S p fun xs => xs.length < sizeLine ∧ 0 ≤ i ∧ i < 2 ^ 63 ∧ R .non (S.put p (.lst (xs.take i.toNat ++ [a] ++ xs.drop i.toNat))) := by
  apply propext; rw [lstAt_ex]; rfl
theorem n_app : mthW .append (.ref p) [a] S R = lstAt S p fun xs => xs.length < sizeLine ∧ R .non (S.put p (.lst (xs ++ [a]))) := by
  apply propext; rw [lstAt_ex]; rfl
theorem n_popT : mthTy .pop (.ref p) S = lstAt S p fun _ => True := by
  apply propext; rw [lstAt_ex]; simp [mthTy]
theorem n_appT : mthTy .append (.ref p) S = lstAt S p fun _ => True := by
  apply propext; rw [lstAt_ex]; simp [mthTy]
theorem n_extT : mthTy .extend (.ref p) S = lstAt S p fun _ => True := by
  apply propext; rw [lstAt_ex]; simp [mthTy]
theorem n_extl : mthW .extend (.ref p) [.lst ys] S R = lstAt S p fun xs => xs.length + ys.length ≤ sizeLine ∧ R .non (S.put p (.lst (xs ++ ys))) := by
  apply propext; rw [lstAt_ex]; simp [mthW, lstOf]
theorem n_pop : mthW .pop (.ref p) [] S R = lstAt S p fun xs => ∃ x, xs[xs.length - 1]? = some x ∧ R x (S.put p (.lst xs.dropLast)) := by
  apply propext; rw [lstAt_ex]
  simp only [mthW]
  constructor
  · rintro ⟨xs, x, h1, h2, h3⟩; exact ⟨xs, h1, x, h2, h3⟩
  · rintro ⟨xs, h1, x, h2, h3⟩; exact ⟨xs, x, h1, h2, h3⟩
theorem n_frz : frzW (.ref p) S R = lstAt S p fun xs => R (.lst xs) (S.del p) := by
  apply propext; rw [lstAt_ex]
  unfold frzW
  constructor
  · rintro ⟨b, ys, h1, h2, h3⟩
    cases h1; exact ⟨ys, h2, h3⟩
  · rintro ⟨xs, h, h3⟩; exact ⟨p, xs, rfl, h, h3⟩
theorem n_fld {at_ : Nat → Str → Bool} {g : Str} : fldW at_ (.ref p) g S R = insAt S p fun c fs => at_ c g = true ∧ ∃ u, fs.lookup g = some u ∧ R u S := by
  apply propext; rw [insAt_ex]
  unfold fldW
  constructor
  · rintro ⟨a, c', fs', u, h1, h2, h3, h4, h5⟩
    cases h1; exact ⟨c', fs', h2, h3, u, h4, h5⟩
  · rintro ⟨c, fs, h, h3, u, h4, h5⟩
    exact ⟨p, c, fs, u, rfl, h, h3, h4, h5⟩
theorem n_setF {at_ : Nat → Str → Bool} {g : Str} {u : U} {K : Sto → Prop} : setFW at_ (.ref p) g u S K = insAt S p fun c fs => at_ c g = true ∧ fs.length < 100 ∧ K (S.put p (.ins c (putU g u fs))) := by
  apply propext; rw [insAt_ex]
  unfold setFW
  constructor
  · rintro ⟨a, c', fs', h1, h2, h3, h4, h5⟩
    cases h1; exact ⟨c', fs', h2, h3, h4, h5⟩
  · rintro ⟨c, fs, h, h3, h4, h5⟩
    exact ⟨p, c, fs, rfl, h, h3, h4, h5⟩
theorem n_trur : truOf S (.ref p) = match S p with | some (.lst xs) => some (!xs.isEmpty) | _ => none := by
  simp only [truOf, seqOf, lisOf, lstOf]
  split
  · next xs e => simp [e]
  · next h =>
    first
      | rfl
      | (split
         · next xs e => exact absurd e (h xs)
         · rfl)
theorem n_trul : truOf S (.lst xs) = some (!xs.isEmpty) := rfl
theorem n_trut : truOf S (.tup xs) = some (!xs.isEmpty) := rfl
theorem n_trub {b : Bool} : truOf S (.bl b) = some b := rfl
theorem n_trui : truOf S (.int i) = some (i != 0) := rfl
theorem n_ix0 {n : Nat} : ixN (n + 1) 0 = some 0 := by
  unfold ixN; rw [if_pos (by decide), if_pos (by omega)]; rfl
theorem n_ix1 {n : Nat} : ixN (n + 1 + 1) 1 = some 1 := by
  unfold ixN; rw [if_pos (by decide), if_pos (by omega)]; rfl
theorem n_ix2 {n : Nat} : ixN (n + 1 + 1 + 1) 2 = some 2 := by
  unfold ixN; rw [if_pos (by decide), if_pos (by omega)]; rfl
theorem n_ix3 {n : Nat} : ixN (n + 1 + 1 + 1 + 1) 3 = some 3 := by
  unfold ixN; rw [if_pos (by decide), if_pos (by omega)]; rfl
theorem n_ix4 {n : Nat} : ixN (n + 1 + 1 + 1 + 1 + 1) 4 = some 4 := by
  unfold ixN; rw [if_pos (by decide), if_pos (by omega)]; rfl
section
variable {α : Type} {a0 a1 a2 a3 a4 a5 : α} {l : List α}
theorem at_0 : L2.atI (a0 :: l) 0 = some a0 := by
  have : L2.atI (a0 :: l) ((0 : Nat) : Int) = some a0 := atI_nat rfl
  exact this
theorem at_1 : L2.atI (a0 :: a1 :: l) 1 = some a1 := by
  have : L2.atI (a0 :: a1 :: l) ((1 : Nat) : Int) = some a1 := atI_nat rfl
  exact this
theorem at_2 : L2.atI (a0 :: a1 :: a2 :: l) 2 = some a2 := by
  have : L2.atI (a0 :: a1 :: a2 :: l) ((2 : Nat) : Int) = some a2 := atI_nat rfl
  exact this
theorem at_3 : L2.atI (a0 :: a1 :: a2 :: a3 :: l) 3 = some a3 := by
  have : L2.atI (a0 :: a1 :: a2 :: a3 :: l) ((3 : Nat) : Int) = some a3 := atI_nat rfl
  exact this
theorem at_4 : L2.atI (a0 :: a1 :: a2 :: a3 :: a4 :: l) 4 = some a4 := by
  have : L2.atI (a0 :: a1 :: a2 :: a3 :: a4 :: l) ((4 : Nat) : Int) = some a4 := atI_nat rfl
  exact this
theorem at_5 : L2.atI (a0 :: a1 :: a2 :: a3 :: a4 :: a5 :: l) 5 = some a5 := by
  have : L2.atI (a0 :: a1 :: a2 :: a3 :: a4 :: a5 :: l) ((5 : Nat) : Int) = some a5 := atI_nat rfl
  exact this
theorem at_in {xs : List α} {i : Int} (h0 : 0 ≤ i) (h : i < xs.length) : ∃ u, L2.atI xs i = some u ∧ xs[i.toNat]? = some u := by
  have hi : i.toNat < xs.length := by omega
  refine ⟨xs[i.toNat], ?_, List.getElem?_eq_getElem hi⟩
  have : L2.atI xs ((i.toNat : Nat) : Int) = some xs[i.toNat] := atI_nat (List.getElem?_eq_getElem hi)
  rwa [Int.toNat_of_nonneg h0] at this
theorem at_nat {xs : List α} {i : Int} (h0 : 0 ≤ i) : L2.atI xs i = xs[i.toNat]? := by
  by_cases h : i < xs.length
  · obtain ⟨u, h1, h2⟩ := at_in h0 h
    rw [h1, h2]
  · rw [List.getElem?_eq_none (by omega)]
    unfold L2.atI ixN
    rw [if_pos h0, if_neg h]; rfl
theorem cut_from {xs : List α} {n : Nat} : cutU xs (some (n : Int)) none = xs.drop n := by
  unfold cutU
  rw [HT.sIx_nat, HT.sIx_none]
  by_cases h : n ≤ xs.length
  · rw [Nat.min_eq_left h, List.take_of_length_le (by simp)]
  · rw [Nat.min_eq_right (by omega), Nat.sub_self, List.take_zero, List.drop_eq_nil_of_le (by omega)]
theorem cut_to {xs : List α} {n : Nat} : cutU xs none (some (n : Int)) = xs.take n := by
  unfold cutU
  rw [HT.sIx_nat, HT.sIx_none, List.drop_zero, Nat.sub_zero]
  by_cases h : n ≤ xs.length
  · rw [Nat.min_eq_left h]
  · rw [Nat.min_eq_right (by omega), List.take_of_length_le (Nat.le_refl _), List.take_of_length_le (by omega)]
theorem cut_mid {xs : List α} {n m : Nat} : cutU xs (some (n : Int)) (some (m : Int)) = (xs.drop n).take (m - n) := by
  unfold cutU
  rw [HT.sIx_nat, HT.sIx_nat]
  by_cases h : n ≤ xs.length
  · rw [Nat.min_eq_left h]
    by_cases h2 : m ≤ xs.length
    · rw [Nat.min_eq_left h2]
    · rw [Nat.min_eq_right (by omega), List.take_of_length_le (by simp), List.take_of_length_le (by simp; omega)]
  · have h' : min n xs.length = xs.length := Nat.min_eq_right (by omega)
    rw [h', List.drop_length, List.drop_eq_nil_of_le (by omega)]; simp
end
end
theorem cut_1 {α : Type} {x : α} {xs : List α} : cutU (x :: xs) (some 1) none = xs := cut_from (n := 1)
theorem eqable0 : eqable (.lst []) := ⟨rfl, by decide⟩
theorem ueqs0 : ueqs xs [] = xs.isEmpty := by
  cases xs <;> simp [ueqs]
/-- a mutable list is (not) empty -/
theorem n_addrl {m : Bool} : bopW .add m (.ref p) (.lst ys) S R = lstAt S p fun xs => xs.length + ys.length ≤ sizeLine ∧ alloc m (xs ++ ys) S R := by
  apply propext; rw [lstAt_ex]
  simp [bopW, lstOf]
  constructor
  · rintro ⟨xs, h, h2, h3⟩
    split at h
    · next e => cases h; exact ⟨_, e, h2, h3⟩
    · cases h
  · rintro ⟨xs, e, h2, h3⟩; rw [e]; exact ⟨_, rfl, h2, h3⟩
theorem n_inS {c : Nat} : copW .isin (.str [c]) (.str t) S k = k (decide (c ∈ t)) := by
  show (∃ c', U.str [c] = .str [c'] ∧ k (decide (c' ∈ t))) = _
  simp
section
variable {S : Sto} {R : Post} {k : Bool → Prop} {xs ys : List U} {p : Addr} {m a b : Bool} {lo hi : Option Int}
theorem n_addt : bopW .add m (.tup xs) (.tup ys) S R = (xs.length + ys.length ≤ sizeLine ∧ R (.tup (xs ++ ys)) S) := rfl
theorem n_slct : slcW m (.tup xs) lo hi S R = R (.tup (cutU xs lo hi)) S := rfl
theorem n_isb : copW .isN (.bl a) (.bl b) S k = k (a == b) := rfl
theorem n_notb : copW .notN (.bl a) (.bl b) S k = k (!(a == b)) := rfl
theorem n_extt : mthW .extend (.ref p) [.tup ys] S R = lstAt S p fun xs => xs.length + ys.length ≤ sizeLine ∧ R .non (S.put p (.lst (xs ++ ys))) := by
  apply propext; rw [lstAt_ex]
  simp only [mthW, lstOf]
  constructor
  · rintro ⟨xs, zs, h1, h2, h3, h4⟩
    rcases h2 with h2 | h2
    · cases h2; exact ⟨xs, h1, h3, h4⟩
    · cases h2
  · rintro ⟨xs, h1, h3, h4⟩; exact ⟨xs, ys, h1, .inl rfl, h3, h4⟩
end
theorem rngD_length {lo : Int} {n : Nat} : (rngD lo n).length = n := by simp [rngD]
theorem rngD_at {lo : Int} {n i : Nat} {x : U} (h : (rngD lo n)[i]? = some x) : x = .int (lo - i) ∧ i < n := by
  have hi := (List.getElem?_eq_some_iff.mp h).1
  rw [rngD_length] at hi
  rw [rngD, List.getElem?_map, List.getElem?_range hi] at h
  cases h; exact ⟨rfl, hi⟩
theorem line_ok {n : Nat} (h : n ≤ 1000) : (n ≤ sizeLine) = True := by
  apply eq_true
  rw [sizeLine_eq]; omega
/-- run the first statement -/
theorem run_cons {G : GV} {RX : RXn} {s : Cm} {r : Cms} {ρ : Env} {S : Sto} {D : Out} (h : wC G RX s ρ S { D with nx := fun ρ' S' => wCms G RX r ρ' S' D }) : wCms G RX (.cons s r) ρ S D := h
theorem run_nil {G : GV} {RX : RXn} {ρ : Env} {S : Sto} {D : Out} (h : D.nx ρ S) : wCms G RX .nil ρ S D := h
/-- a comprehension, closed against simp -/
def lcG (G : GV) (m : Bool) (own : List Nat) (g : Tg) (gd : Sto → Prop) (c : T) (e : E) (R : Post) (ρ : Env) (xs acc : List U) (S : Sto) : Prop :=
  lcW m own g gd (fun ρ S k => wT G noX c ρ S k) (fun ρ S R => wE G noX e ρ S R) R ρ xs acc S
theorem e_lc {G : GV} {RX : RXn} {m : Bool} {own : List (Str × Nat)} {g : Tg} {it : Mm.It} {c : T} {e : E} {ρ : Env} {S : Sto} {R : Post} :
    wE G RX (.lc m own g it c e) ρ S R = wI G RX it ρ S fun xs gd S1 => lcG G m (own.map fun p => p.2) g gd c e R ρ xs [] S1 := rfl
theorem lc_by {G : GV} (mG : GMono G) {m : Bool} {own : List Nat} {g : Tg} {gd : Sto → Prop} {c : T} {e : E} {R : Post} {ρ : Env} {xs : List U} {S : Sto} (I : Nat → List U → Sto → Prop) (h0 : I 0 [] S)
    (hs : ∀ i x acc S, xs[i]? = some x → I i acc S → gd S ∧ tgW g x (wipeU ρ own) fun ρ2 => wT G noX c ρ2 S fun b S1 => if b then wE G noX e ρ2 S1 fun y S2 => acc.length < sizeLine ∧ I (i + 1) (acc ++ [y]) S2 else I (i + 1) acc S1)
    (hd : ∀ acc S, I xs.length acc S → gd S ∧ alloc m acc S R) : lcG G m own g gd c e R ρ xs [] S := lc_inv mG I h0 hs hd
end Mm
/-! MmO: joining defs to a whole -/
namespace Mm
open PySem PySem.Spec PyProof.Rows L2
section
variable {P : Program} {w : World} {K : PySem.W.Frag} {mg : Str → Option Value} {base : Heap} {cls ecl : List Addr} {j k : Nat} {f C : Addr} {sp : FS} {g : GN}
theorem DefOk.mono {b : Bool} (h : DefOk b P w K mg base cls ecl j f sp) (l : j ≤ k) : DefOk b P w K mg base cls ecl k f sp := by
  obtain ⟨fd, ps, h1, h2⟩ := h.ex
  exact ⟨fd, ps, h1.mono l, h2⟩
theorem DefOk.weak {b : Bool} (h : DefOk false P w K mg base cls ecl k f sp) : DefOk b P w K mg base cls ecl k f sp := by
  obtain ⟨fd, ps, h1, h2⟩ := h.ex
  exact ⟨fd, ps, h1.weak, h2⟩
/-- the i-th name of the text is a def that keeps sp -/
def FnF (b : Bool) (g : GN) (P : Program) (w : World) (K : PySem.W.Frag) (mg : Str → Option Value) (base : Heap) (cls ecl : List Addr) (k i : Nat) (sp : FS) : Prop :=
  ∃ nm f, g.fns[i]? = some nm ∧ DefOk b P w K mg base cls ecl k f sp ∧ mg nm = some (.ref f) ∧ PySem.W.keepIn K (.ref f) = true
def MtF (cn : ClsN) (at_ : Str → Bool) (C : Addr) (P : Program) (w : World) (K : PySem.W.Frag) (mg : Str → Option Value) (base : Heap) (cls ecl : List Addr) (k i : Nat) (sp : FS) : Prop :=
  ∃ nm f, cn.meths[i]? = some nm ∧ Meth K C nm f ∧ DefOk false P w K mg base cls ecl k f sp ∧ at_ nm = false
def GlF (g : GN) (K : PySem.W.Frag) (mg : Str → Option Value) (i : Nat) (u : U) : Prop := ∃ nm v w, g.globs[i]? = some nm ∧ mg nm = some w ∧ RelV v w ∧ ∀ F H, VRel K F H v u
def AllI {α : Type} (p : Nat → α → Prop) : Nat → List α → Prop
  | _, [] => True
  | i, x :: xs => p i x ∧ AllI p (i + 1) xs
theorem AllI.get {α : Type} {p : Nat → α → Prop} : ∀ {xs : List α} {i : Nat}, AllI p i xs → ∀ {n : Nat} {x : α}, xs[n]? = some x → p (i + n) x
  | [], i, _, n, x, e => by simp at e
  | y :: xs, i, h, 0, x, e => by cases e; exact h.1
  | y :: xs, i, h, n + 1, x, e => by
    have := AllI.get (i := i + 1) h.2 (n := n) (x := x) e
    rwa [Nat.add_assoc, Nat.add_comm 1 n] at this
theorem AllI.get0 {α : Type} {p : Nat → α → Prop} {xs : List α} (h : AllI p 0 xs) {n : Nat} {x : α} (e : xs[n]? = some x) : p n x := by
  have := h.get e
  rwa [Nat.zero_add] at this
theorem AllI.imp {α : Type} {p q : Nat → α → Prop} (l : ∀ i x, p i x → q i x) : ∀ {xs : List α} {i : Nat}, AllI p i xs → AllI q i xs
  | [], _, _ => trivial
  | x :: xs, i, h => ⟨l _ _ h.1, AllI.imp l h.2⟩
theorem AllI.snoc {α : Type} {p : Nat → α → Prop} {x : α} : ∀ {xs : List α} {i : Nat}, AllI p i xs → p (i + xs.length) x → AllI p i (xs ++ [x])
  | [], _, _, h => ⟨h, trivial⟩
  | y :: xs, i, h, h2 => ⟨h.1, AllI.snoc h.2 (by rw [List.length_cons] at h2; rwa [Nat.add_assoc, Nat.add_comm 1])⟩
theorem FnF.mono {b : Bool} {i : Nat} (h : FnF b g P w K mg base cls ecl j i sp) (l : j ≤ k) : FnF b g P w K mg base cls ecl k i sp := by
  obtain ⟨nm, f, h1, h2, h3, h4⟩ := h
  exact ⟨nm, f, h1, h2.mono l, h3, h4⟩
theorem MtF.mono {i : Nat} {cn : ClsN} {at_ : Str → Bool} (h : MtF cn at_ C P w K mg base cls ecl j i sp) (l : j ≤ k) : MtF cn at_ C P w K mg base cls ecl k i sp := by
  obtain ⟨nm, f, h1, h2, h3, h4⟩ := h
  exact ⟨nm, f, h1, h2, h3.mono l, h4⟩
/-- a text without classes -/
theorem base0 {G : GV} (hc : G.cls = []) (hf : AllI (FnF G.gd g P w K mg base [] ecl k) 0 G.fns) (hg : AllI (GlF g K mg) 0 G.globs) (hb : ∀ x ∈ bltNames, mg x = none) (ex : ExF g G ecl k P w K mg base) : Base g G [] ecl k P w K mg base :=
  ⟨fun i sp e => hf.get0 e, fun i u e => hg.get0 e, hb, fun c cv e => by rw [hc] at e; simp at e, fun c C f e => by simp at e, ex⟩
/-- a text with one class -/
theorem base1 {G : GV} {cn : ClsN} {cv : ClsV} {fi : Addr} (hc : G.cls = [cv]) (hgc : g.cls[0]? = some cn) (hf : AllI (FnF G.gd g P w K mg base [C] ecl k) 0 G.fns) (hg : AllI (GlF g K mg) 0 G.globs) (hb : ∀ x ∈ bltNames, mg x = none)
    (mk : Mk K C fi) (di : DefOk false P w K mg base [C] ecl k fi cv.init) (hn : mg cn.name = some (.ref C)) (hm : AllI (MtF cn (G.attr 0) C P w K mg base [C] ecl k) 0 cv.meths) (cl : Cls K C) (na : ∀ f, G.attr 0 f = true → NoAttr K C f) (ex : ExF g G ecl k P w K mg base) : Base g G [C] ecl k P w K mg base := by
  refine ⟨fun i sp e => hf.get0 e, fun i u e => hg.get0 e, hb, fun c cv' e => ?_, fun c C' f e => ?_, ex⟩
  · rw [hc] at e
    cases c with
    | succ c => simp at e
    | zero =>
      cases e
      refine ⟨cn, C, fi, hgc, rfl, mk, di, hn, fun m sp e => ?_⟩
      obtain ⟨nm, f, h1, h2, h3, h4⟩ := hm.get0 e
      exact ⟨nm, f, h1, h2, h3, h4⟩
  · cases c with
    | succ c => simp at e
    | zero => cases e; exact ⟨cl, na f⟩
/-- .. before the class is looked at -/
theorem base1' {G : GV} (hc : G.cls = []) (hf : AllI (FnF G.gd g P w K mg base [C] ecl k) 0 G.fns) (hg : AllI (GlF g K mg) 0 G.globs) (hb : ∀ x ∈ bltNames, mg x = none)
    (cl : Cls K C) (na : ∀ f, G.attr 0 f = true → NoAttr K C f) (ex : ExF g G ecl k P w K mg base) : Base g G [C] ecl k P w K mg base := by
  refine ⟨fun i sp e => hf.get0 e, fun i u e => hg.get0 e, hb, fun c cv' e => by rw [hc] at e; simp at e, fun c C' f e => ?_, ex⟩
  cases c with
  | succ c => simp at e
  | zero => cases e; exact ⟨cl, na f⟩
theorem GMono.of {G : GV} {fs : List FS} {cs : List ClsV} (h : GMono { fns := fs, globs := G.globs, cls := cs, attr := G.attr }) (hf : ∀ x ∈ G.fns, x ∈ fs) (hc : ∀ x ∈ G.cls, ∃ y ∈ cs, x.init = y.init ∧ ∀ m ∈ x.meths, m ∈ y.meths) : GMono G := by
  refine ⟨fun sp e => h.fn sp (hf sp e), fun c e => ?_⟩
  obtain ⟨y, hy, h1, h2⟩ := hc c e
  obtain ⟨h3, h4⟩ := h.cl y hy
  exact ⟨h1 ▸ h3, fun sp hs => h4 sp (h2 sp hs)⟩
/-- a tuple of texts that the top has left -/
theorem vals_strs : ∀ {ts : List (List Nat)} {vs : List Value}, Paired (fun (t : List Nat) (v : Value) => ∃ tk, v = .str ⟨t.toArray⟩ tk) ts vs → Vals (ts.map fun t => V.str ⟨t.toArray⟩) vs
  | _, _, .nil => .nil
  | _, _, .cons h r => .cons h (vals_strs r)
theorem rels_strs {F : Addr → Prop} {H : Hp} : ∀ ts : List (List Nat), VRels K F H (ts.map fun t => V.str ⟨t.toArray⟩) (ts.map U.str)
  | [] => .nil
  | t :: ts => .cons (.str t) (rels_strs ts)
theorem gl_tup {i : Nat} {nm : Str} {a : Addr} {ts : List (List Nat)} {o : Obj} {its : Array Value} {n : Nat} (e : g.globs[i]? = some nm) (m : mg nm = some (.ref a)) (l : K.lookup a = some o) (hc : o.cls = .type "tuple") (hd : o.data = .seq its n) (hs : its.size ≤ sizeLine)
    (hv : Paired (fun (t : List Nat) (v : Value) => ∃ tk, v = .str ⟨t.toArray⟩ tk) ts its.toList) : GlF g K mg i (.tup (ts.map .str)) :=
  ⟨nm, .ref a, _, e, m, rfl, fun F H => .tup (.inr (.inr ⟨o, its, n, l, hc, hd, hs, vals_strs hv⟩)) (rels_strs ts)⟩
theorem gl_int {i : Nat} {nm : Str} {z : Int} {tk : Nat} (e : g.globs[i]? = some nm) (m : mg nm = some (.int z tk)) : GlF g K mg i (.int z) := ⟨nm, .int z, _, e, m, ⟨tk, rfl⟩, fun F H => .int z⟩
theorem AllI.n {α : Type} {p : Nat → α → Prop} {i : Nat} : AllI p i [] := trivial
theorem AllI.c {α : Type} {p : Nat → α → Prop} {i : Nat} {x : α} {xs : List α} (h : p i x) (r : AllI p (i + 1) xs) : AllI p i (x :: xs) := ⟨h, r⟩
theorem gm0 {G : GV} (hf : AllI (fun _ sp => SpMono sp.sp) 0 G.fns) (hc : G.cls = []) : GMono G := by
  refine ⟨fun sp e => ?_, fun c e => by rw [hc] at e; simp at e⟩
  obtain ⟨n, h1, h2⟩ := List.mem_iff_getElem.mp e
  exact hf.get0 (n := n) (x := sp) (by rw [List.getElem?_eq_getElem h1, h2])
theorem gm1 {G : GV} {cv : ClsV} (hf : AllI (fun _ sp => SpMono sp.sp) 0 G.fns) (hc : G.cls = [cv]) (hi : SpMono cv.init.sp) (hm : AllI (fun _ sp => SpMono sp.sp) 0 cv.meths) : GMono G := by
  refine ⟨fun sp e => ?_, fun c e => ?_⟩
  · obtain ⟨n, h1, h2⟩ := List.mem_iff_getElem.mp e
    exact hf.get0 (n := n) (x := sp) (by rw [List.getElem?_eq_getElem h1, h2])
  · rw [hc] at e
    rw [List.mem_singleton.mp e]
    refine ⟨hi, fun sp e => ?_⟩
    obtain ⟨n, h1, h2⟩ := List.mem_iff_getElem.mp e
    exact hm.get0 (n := n) (x := sp) (by rw [List.getElem?_eq_getElem h1, h2])
/-- what the top has left of the exceptions is so at a higher level, too -/
theorem ExF.mono {G : GV} (h : ExF g G ecl j P w K mg base) (l : j ≤ k) : ExF g G ecl k P w K mg base :=
  ⟨h.nm, fun c C fl h1 h2 => by
    obtain ⟨r1, r2⟩ := h.row c C fl h1 h2
    refine ⟨fun hne => ?_, fun he X nm p pos e1 e2 e3 e4 e5 hr => r2 he X nm p pos e1 e2 e3 e4 e5 (hr.mono (by omega))⟩
    obtain ⟨⟨h3, fI, fd, ps, h4, h5, h6, h7⟩, h8⟩ := r1 hne
    exact ⟨⟨h3, fI, fd, ps, h4, h5, h6.mono l, h7⟩, h8⟩, h.em, h.xf, h.ki⟩
/-- def_ok with the function object told -/
theorem def_fn {x qual : Str} {st : Stmt} {fd : FuncData} {N ps : List Str} {b : Cms} {G : GV}
    (B : Base g G cls ecl k P w K mg base) (F : Fun K x qual st f fd) (S : FnScope N ps (defScope st)) (hn : sp.n = ps.length) (hc : chkSs g N b (defScope st) (defBody st) = true)
    (h : ∀ us S R RX, us.length = ps.length → sp.sp us S R RX → wCms G (fun x _ S' => RX x S') b (startU N us) S { nx := fun _ S' => R .non S', rt := R }) :
    FnB G.gd P w K mg base (k + 2) f fd ps (liftSp K cls ecl sp) := by
  refine fnB_of (k := k + 1) F S (fun vs H Q E hv => hv.1.trans hn) (fun cdv A outer s H vs Q E hgd hr hsp => ?_)
  obtain ⟨hl, F0, S0, us, R, RX, sr, rs, hsp, lx, l⟩ := hsp
  exact ⟨_, okSs b (defX B S hr hgd (fun x ρ S' hx F' H' σ' d C sr' _ xa hC => lx x S' hx F' H' d C sr' xa hC)) ⟨fun _ => rfl, rfl, rfl⟩ hc, defR (ps := ps) S0 sr rs (by rw [hl, hn]) (h us S0 R RX (by rw [← rs.length, hl, hn]) hsp) l⟩
/-- the law's own def, at the script -/
def spTop (K : PySem.W.Frag) : Sp := fun vs H Q _ => ∃ (a : Addr) (ns : List Int), vs = [.ref a] ∧ SqL K H a (ns.map V.int) ∧ Only H ∧ ns.length ≤ 63 ∧ ∀ H', Q (.bl true) H'
theorem rels_ints {F : Addr → Prop} {H : Hp} : ∀ ns : List Int, VRels K F H (ns.map V.int) (ns.map U.int)
  | [] => .nil
  | n :: ns => .cons (.int n) (rels_ints ns)
theorem law_top {b : Bool} {fd : FuncData} {ps : List Str} (h1 : FnB b P w K mg base k f fd ps (liftSp K cls ecl sp)) (hn : sp.n = 1) (hl : ∀ ns : List Int, ns.length ≤ 63 → ∀ S R RX, (∀ S', R (.bl true) S') → sp.sp [.ls (ns.map .int)] S R RX) :
    FnB b P w K mg base k f fd ps (spTop K) := by
  have key : ∀ vs H Q E, spTop K vs H Q E → liftSp K cls ecl sp vs H Q E := fun vs H Q E hv => ?_
  · exact ⟨fun vs H Q E q => h1.len vs H Q E (key _ _ _ _ q), fun A outer s H ar us vs Q E hg hr he hb hv hs => h1.run A outer s H ar us vs Q E hg hr he hb hv (key _ _ _ _ hs)⟩
  obtain ⟨a, ns, rfl, hs, ho, hlen, k⟩ := hv
  refine ⟨hn.symm, fun b => H b ≠ none, Sto.nil, [.ls (ns.map .int)], fun u _ => u = .bl true, fun _ _ => False, ⟨fun _ _ => rfl, fun b hb => ?_, fun b o e => (by cases e), .refl⟩, .cons (.ls ?_ (rels_ints ns)) .nil, hl ns hlen _ _ _ fun _ => rfl, fun _ _ z => z.elim, ?_⟩
  · cases e : H b with
    | none => exact absurd e hb
    | some o => exact ⟨o, rfl⟩
  · rcases hs with hs | hs
    · refine .inl ?_
      rcases hs with e | ⟨o, e⟩
      · rcases ho a with z | ⟨o, xs, z⟩
        · rw [e] at z; cases z
        · rw [e] at z; cases z
      · exact ⟨(show H a ≠ none from by rw [e]; intro z; cases z), o, e⟩
    · exact .inr (.inr hs)
  · intro u S' hu F' H' v _ _ hv
    cases hu; cases hv
    exact k H'
end
end Mm
/-! MmW: the head, where the law's def is called with nothing of repr under way -/
namespace Mm
open PySem PySem.Spec PyProof.Rows L2
section
variable {P : Program} {w : World} {K : PySem.W.Frag} {mg mb : Str → Option Value} {k : Nat} {fa a : Addr} {fd : FuncData} {x : Str} {sp : Sp} {z : Shared} {vs : List Value} {ns : List Int}
/-- the law's call over a heap H that tracks the script at most -/
theorem top_core (kin : K.In z.heap) (gns : z.heap.Ns mainGlobals mg) (bns : z.heap.Ns builtinsNs mb) (hbb : ∀ x : Str, x ≠ "__name__" → mb x = bootBuiltins x) (lim : z.heap.NoLimit) (hg : z.gens = #[])
    (ha : z.heap.get? a = some { cls := .type "list", data := .seq vs.toArray }) (hr : Room k callerA) (Fo : ∀ base : Heap, K.In base → base.Ns mainGlobals mg → FnB true P w K mg base k fa fd [x] sp) (hbind : ∀ (s : Shared) (u : Value), BindsTo s fd ⟨[u], []⟩ [(x, u)])
    (hsp : ∀ H : Hp, Only H → SqL K H a (ns.map V.int) → sp [.ref a] H (fun v _ => v = .bl true) fun _ _ _ => False)
    {H : Hp} (hO : Only H) (hS : SqL K H a (ns.map V.int)) (hok : HOk P w H z.heap) (one : ∀ b, H b ≠ none → b = a) (nk : H a ≠ none → K.lookup a = none) :
    codeAny (model P w) callerA (.call (.ref fa) ⟨[.ref a], []⟩) (fun r y => r = .ok (.ret (.bool true)) ∧ OldK z.heap y.heap ∧ y.os = z.os ∧ AllBare y.gens) z := by
  have atA : ∀ {b : Addr} {u : HO}, H b = some u → b = a := fun q => one _ (by rw [q]; exact fun e => nomatch e)
  have below : ∀ {b : Addr} {o : Obj}, z.heap.get? b = some o → H b = none → (hidT z.heap H).get? b = some o := fun e n => hidT_get e n
  have ns_ : ∀ {b : Addr} {m : Str → Option Value}, z.heap.Ns b m → (hidT z.heap H).Ns b m := by
    rintro b m ⟨o, es, ep, e, d, r⟩
    refine ⟨o, es, ep, below e ?_, d, r⟩
    cases q : H b with
    | none => rfl
    | some u =>
      rw [atA q, ha] at e
      cases e
      cases (show Data.seq vs.toArray _ = Data.dict es ep from d)
  have kin' : K.In (hidT z.heap H) := fun b o e => below (kin b o e) (by
    cases q : H b with
    | none => rfl
    | some u =>
      have e1 := atA q
      subst e1
      rw [nk (by rw [q]; exact fun e => nomatch e)] at e
      cases e)
  obtain ⟨mc, l1, l2⟩ := lim
  have mod : Mod K mg (hidT z.heap H) := ⟨kin', ns_ gns, ⟨mb, ns_ bns, hbb⟩, ⟨mc, ns_ l1, l2⟩⟩
  have e0 : Env0 P w K mg (hidT z.heap H) callerA [] z H := ⟨rfl, mod, fun b o e => of_hidT e, Nat.le_of_eq (hidT_size _ _), trivial, fun b hb => absurd (show b ∈ ([] : List Addr) from hb) List.not_mem_nil, hok, .of_eq hg⟩
  refine codeAny_mono ((Fo _ kin' (ns_ gns)).run callerA [] z H ⟨[.ref a], []⟩ [.ref a] [.ref a] _ _ (fun _ => rfl) hr e0 (hbind z (.ref a)) (.cons rfl .nil) (hsp H hO hS)) fun r y h => ?_
  match r, h with
  | .error e, h =>
    obtain ⟨_, _, _, _, _, _, _, _, _, _, _, _, q⟩ := h
    exact q.elim
  | .ok (.ret u), ⟨v, H', os, bare, un, hok', rv, q⟩ =>
    cases (show v = V.bl true from q)
    obtain rfl : u = Value.bool true := rv
    refine ⟨rfl, OldK.of_keep fun b o e => ?_, os, bare⟩
    cases q : H b with
    | none => exact un.keep b o e q (fun h => absurd (show b ∈ ([] : List Addr) from h) List.not_mem_nil) List.not_mem_nil
    | some u =>
      rcases hO b with n | ⟨ob, xs, n⟩
      · rw [q] at n; cases n
      · obtain ⟨e1, _⟩ := hok b _ n
        obtain ⟨e2, _⟩ := hok' b _ (un.frzs b ob _ n)
        rw [e] at e1; cases e1
        exact e2
theorem top_call (kin : K.In z.heap) (gns : z.heap.Ns mainGlobals mg) (bns : z.heap.Ns builtinsNs mb) (hbb : ∀ x : Str, x ≠ "__name__" → mb x = bootBuiltins x) (lim : z.heap.NoLimit) (hg : z.gens = #[])
    (ha : z.heap.get? a = some { cls := .type "list", data := .seq vs.toArray }) (hi : IntsAre vs ns) (hl : ns.length ≤ sizeLine) (hr : Room k callerA) (Fo : ∀ base : Heap, K.In base → base.Ns mainGlobals mg → FnB true P w K mg base k fa fd [x] sp) (hbind : ∀ (s : Shared) (u : Value), BindsTo s fd ⟨[u], []⟩ [(x, u)])
    (hsp : ∀ H : Hp, Only H → SqL K H a (ns.map V.int) → sp [.ref a] H (fun v _ => v = .bl true) fun _ _ _ => False) :
    codeAny (model P w) callerA (.call (.ref fa) ⟨[.ref a], []⟩) (fun r y => r = .ok (.ret (.bool true)) ∧ OldK z.heap y.heap ∧ y.os = z.os ∧ AllBare y.gens) z := by
  have len := hi.length
  cases hk : K.lookup a with
  | some o =>
    have e := kin a o hk
    rw [ha] at e
    cases e
    refine top_core (H := fun _ => none) kin gns bns hbb lim hg ha hr Fo hbind hsp (fun _ => .inl rfl) (.inr ⟨_, vs.toArray, _, hk, rfl, rfl, rfl, by rw [List.size_toArray, len]; exact hl, by simpa using vals_ints hi⟩) (fun b u q => nomatch (show (none : Option HO) = some u from q)) (fun b q => absurd rfl q) fun q => absurd rfl q
  | none =>
    have at_ : ∀ b, b ≠ a → upd (fun _ => none) a (.frz { cls := .type "list", data := .seq vs.toArray } (.lst (ns.map V.int))) b = none := fun b hb => by rw [upd_ne hb]
    refine top_core (H := upd (fun _ => none) a (.frz { cls := .type "list", data := .seq vs.toArray } (.lst (ns.map V.int)))) kin gns bns hbb lim hg ha hr Fo hbind hsp (fun b => ?_) (.inl (.inr ⟨_, upd_same⟩)) (fun b u q => ?_) (fun b q => ?_) fun _ => hk
    · by_cases hb : b = a
      · subst hb; exact .inr ⟨_, _, upd_same⟩
      · exact .inl (at_ b hb)
    · by_cases hb : b = a
      · subst hb
        rw [upd_same] at q
        cases q
        exact ⟨ha, by rw [List.length_map]; exact hl, vs, _, vals_ints hi, ha⟩
      · rw [at_ b hb] at q; cases q
    · by_cases hb : b = a
      · exact hb
      · exact absurd (at_ b hb) q
end
/-- the goal that k_head leaves, from the law's promise -/
theorem top_walk {l : PySem.W.OpenLaw} {n k : Nat} {q : Program} {loose : List Str} {XP : (Str → Option Value) → Heap → Prop} {YP : World → Heap → Prop} {d : DefRec} {K : Params → PySem.W.Frag} {sp : World → Sp} {x : Str} (hn : l.most = some n) (hn2 : n ≤ sizeLine) (hdf : d.params.defaults = []) (hr : Room k callerA)
    (hY : ∀ (w : World) (h : Heap), YP w h → (K w.params).In h)
    (Fo : ∀ (w : World) (mg : Str → Option Value) (fa : Addr) (h : Heap), (K w.params).In h → h.Ns mainGlobals mg → mg d.name = some (.ref fa) → ∃ fd : FuncData, (∀ (s : Shared) (u : Value), BindsTo s fd ⟨[u], []⟩ [(x, u)]) ∧ ∀ base : Heap, (K w.params).In base → base.Ns mainGlobals mg → FnB true l.prog w (K w.params) mg base k fa fd [x] (sp w))
    (hsp : ∀ (w : World) (H : Hp) (a : Addr) (ns : List Int), ns.length ≤ n → Only H → SqL (K w.params) H a (ns.map V.int) → sp w [.ref a] H (fun v _ => v = .bl true) fun _ _ _ => False) :
    PySem.W.WalkO q loose XP YP l.row.toRowW d [] (fun f vs => PySem.call f vs) := by
  refine Att.attach_call hn hdf fun w s₀ z mg mb fa o pm cd doc a vs ns G Y ho hd hcd hmg hobj hints hlen hg => ?_
  obtain ⟨fd, hb, h⟩ := Fo w mg fa _ (hY w _ Y) G.T.g hmg
  exact top_call (hY w _ Y) G.T.g G.T.b G.T.builtins G.T.nolimit hg hobj hints (Nat.le_trans hlen hn2) hr h hb fun H hO hS => hsp w H a ns hlen hO hS
end Mm
/-! MmY: the __init__ of an exception's class: super().__init__(text); self.f = f -/
namespace Mm
open PySem PySem.Spec PyProof.Rows L2
section
variable {CT : CXT} {P : Program} {w : World} {K : PySem.W.Frag} {mg : Str → Option Value} {base : Heap} {k : Nat} {f cda cc C : Addr} {qual fld1 fld2 z file : Str} {params : Arguments} {body : List Stmt} {scope : Scope} {dV kV doc pm ct oc ccl cl : Value} {an od cdd cld : Option Addr}
  {osl ccs csl : Array (Option Value)} {vs0 : Array Value} {tf : Tok} {j : Nat} {p0 p1 p2 p3 p4 p5 p6 p7 p8 p9 q6 q7 q8 q9 : Pos} {ar : Arg}
/-- super().__init__(text) -/
def supS (z : Str) (j : Nat) (p0 p1 p2 p3 p4 p5 : Pos) : Stmt := .Expr (.Call (.Attribute (.Call (.Name "super" p0) [] [] p1) "__init__" p2) [.Constant (.str z) j p3] [] p4) p5
/-- self.f = f -/
def asgS (f : Str) (p6 p7 p8 p9 : Pos) : Stmt := .Assign [.Attribute (.Name "self" p6) f p7] (.Name f p8) p9
structure ExcScope (sc : Scope) (fl : List Str) : Prop where
  kind : sc.kind = .function
  co : sc.isCoroutine = false
  gen : sc.isGenerator = false
  sup : sc.names.lookup ("super" : Str) = some .globalImplicit
  dcl : sc.names.lookup ("__class__" : Str) = some .free
  slf : sc.names.lookup ("self" : Str) = some .local
  fl : ∀ f ∈ fl, sc.names.lookup f = some .local ∧ f ≠ "self" ∧ (f == ("__debug__" : Str)) = false ∧ (f == ("__classdict__" : Str)) = false
  nocell : ∀ y ∈ sc.names, y.2 ≠ .cell
  free : ∀ y ∈ sc.names, y.2 = .free → y.1 = "__class__"
/-- an __init__ that stores nothing -/
def spXI0 (C : Addr) : Sp := fun vs H Q _ => ∃ a : Addr, vs = [.ref a] ∧ H a = some (exo a C none) ∧ Q .non H
theorem fn_exc0 (lk : K.lookup f = some ⟨oc, od, .func (PySem.W.ksFn "__init__" qual params body scope dV kV doc pm an (.ref cda) ct cc), osl⟩) (hb : body = [supS z j p0 p1 p2 p3 p4 p5]) (hline : (p2.endLine == p4.line) = true)
    (hcd : PySem.W.codeIn K (.ref cda) qual = true) (hpar : (params.posonlyargs ++ params.args).head? = some ar) (har : ar.arg = "self") (hcode : K.lookup cda = some ⟨ccl, cdd, .fields vs0, ccs⟩) (hvs : vs0[2]? = some (.str file tf)) (hfile : ((P.main.file : Str) == file) = true)
    (hcell : K.lookup cc = some ⟨cl, cld, .cell (some (.ref C)), csl⟩) (T : OexC K C) (hB : PySem.W.subIn K (.ref C) (.type "ValueError") = some true) (hm : PySem.W.ks_superIn K C C "__init__" = some (some (.builtin "ValueError.__init__")))
    (hso : PySem.W.nsIn K cStatics "thirdparty.any" = some none) (hmro : PySem.W.mroIn K C (.ref C) = some true) (hmg : mg "super" = none) (htop : (P.main.scope.names.lookup ("super" : Str)).isSome = false) (S : ExcScope scope []) :
    FnOk P w K mg base CT (k + 1) f (PySem.W.ksFn "__init__" qual params body scope dV kV doc pm an (.ref cda) ct cc) ["self"] (spXI0 C) := by
  refine ⟨fun vs H Q E ⟨a, e, _⟩ => by rw [e]; rfl, fun A outer s H args us vs Q E hr e0 hbd r hsp => ?_⟩
  obtain ⟨a, rfl, ha, hq⟩ := hsp
  cases r with
  | @cons _ u0 _ ur ra rr =>
  cases rr
  obtain rfl : u0 = Value.ref a := ra
  have KX : K.In s.heap := e0.mod.kin.keeps fun b o e => (e0.bs b o e).1
  have lim : s.heap.NoLimit := e0.mod.nolimit.keeps fun b o e => (e0.bs b o e).1
  refine ks_codeAny_call_defAt (fd := PySem.W.ksFn "__init__" qual params body scope dV kV doc pm an (.ref cda) ct cc) (body := body) (binds := [("self", Value.ref a)]) hr.depth (KX _ _ lk) rfl lim (PySem.W.codeRec_of KX hcd) rfl hbd S.nocell
    (fun x hx => by
      simp only [List.mem_cons, List.not_mem_nil, or_false] at hx
      subst hx
      exact S.slf) (fun h₀ hns hk => ?_) S.co S.gen S.kind
  show _root_.PySem.wpAt (model P w) (A.deeper (PySem.W.ksEnv qual scope s.heap.objs.size f (.ref cda) cc)) (.func body (PySem.W.ksEnv qual scope s.heap.objs.size f (.ref cda) cc)) (execs body (PySem.W.ksEnv qual scope s.heap.objs.size f (.ref cda) cc)) _ _ _
  obtain ⟨env, he⟩ : ∃ env, PySem.W.ksEnv qual scope s.heap.objs.size f (.ref cda) cc = env := ⟨_, rfl⟩
  rw [he]
  have hel : env.locals = s.heap.objs.size := by rw [← he]
  have hes : env.scope = scope := by rw [← he]
  have hec : env.cells = [(("__class__" : Str), cc)] := by rw [← he]
  let X : Cx := { prog := P, w := w, K := K, mg := mg, base := base, A := A.deeper env, N := ["self"], s_0 := s, H_0 := H, env := env, outer := outer, stack := env :: outer, ex := [], fn := fun _ => false, calm := true, pn := [], xe := fun _ _ => False }
  have kX : K.In base := e0.mod.kin
  have hcl1 : ∀ x c, env.cells.lookup x = some c → x = "__class__" ∧ c = cc := fun x c h => by
    rw [hec, List.lookup_cons] at h
    cases e : x == ("__class__" : Str) with
    | true => rw [e] at h; cases h; exact ⟨by simpa using e, rfl⟩
    | false => rw [e] at h; cases h
  have I : Inv X [] [some (.ref a)] H { s with heap := h₀, toks := s.toks + 1 } := by
    have noA : ∀ b : Addr, b ∉ X.ex := fun b z => absurd (show b ∈ ([] : List Addr) from z) (by simp)
    refine ⟨⟨e0.mod, by show env.scope.kind = _; rw [hes]; exact S.kind, by show env.globals = _; rw [← he], by show env.builtins = _; rw [← he], by show _ ≤ env.locals; rw [hel]; exact Nat.le_refl _, fun x1 x2 c h1 h2 => (hcl1 x1 c h1).1.trans (hcl1 x2 c h2).1.symm, fun x hx => ?_, fun x c h => (nomatch h), fun _ => hr.hd, Around.frames_deeper e0.frames, .inr ⟨rfl, by show env.frame = some env.locals; rw [← he]⟩, fun b z => absurd z (noA b), e0.bs, e0.bsz, fun b _ _ => noA b, fun b z => absurd z (noA b), e0.funs, e0.frf⟩,
      rfl, e0.bare, Un.kept hk, ⟨_, by show h₀.Ns env.locals _; rw [hel]; exact hns, fun i x v h1 h2 h3 => ?_⟩, fun x c h => ?_, by show H env.locals = none; rw [hel]; exact e0.hok.fresh (Nat.le_refl _), fun x c h => ?_, fun p hp => absurd (show p ∈ ([] : List (Addr × Obj)) from hp) (by simp), e0.hok.kept hk, rfl⟩
    · have hx : env.scope.names.lookup x = some .cell ∨ env.scope.names.lookup x = some .free := hx
      rw [hes] at hx
      rcases hx with hx | hx
      · exact absurd rfl (S.nocell _ (PySem.mem_of_lookup hx))
      · have := S.free _ (PySem.mem_of_lookup hx) rfl
        exact ⟨cc, by show env.cells.lookup x = _; rw [hec, show x = "__class__" from this]; rfl⟩
    · refine (?_ : ∃ u, RelV v u ∧ Look env h₀ _ x u)
      have hko : ∀ x, env.kindOf x = scope.names.lookup x := fun x => by show env.scope.names.lookup x = _; rw [hes]
      match i, h1, h2 with
      | 0, h1, h2 =>
        cases h1; cases h2
        refine ⟨.ref a, rfl, .inl ⟨(hko _).trans S.slf, ?_⟩⟩
        show List.lookup (Str.ofString "self") [("self", Value.ref a)] = _
        simp [List.lookup_cons]
    · obtain ⟨_, rfl⟩ := hcl1 x c h
      exact ⟨some (.ref C), _, hk _ _ (KX _ _ hcell), rfl⟩
    · obtain ⟨_, rfl⟩ := hcl1 x c h
      exact (e0.bs _ _ (kX _ _ hcell)).2
  have hJ : ∀ {s4 : Shared}, Inv X [] [some (.ref a)] H s4 → wpAny (model P w) (A.deeper env) (execs [] env) (fun fl s' => CR CT outer P w H s Q E (.ok (.ret (match fl with | .ret v => v | _ => .none))) s') (fun _ _ => False) s4 := fun {s4} J => by
    have v0 : Vis X.env.scope ("self" : Str) := .inl (by show env.scope.names.lookup _ = _; rw [hes]; exact S.slf)
    have key := (pss_nil (X := X)).run [] s4 [some (.ref a)] H { nx := fun _ H' => Q .non H', rt := Q } J hq
    refine wpAny_mono key (fun fl s' hs => ?_) fun _ _ z => z
    have fin : ∀ {σ' : L2.St} {H' : Hp} {v : V} {u : Value}, Inv X [] σ' H' s' → RelV v u → Q v H' → CE outer P w H s Q u s' := fun {σ' H' v u} J rv q => ⟨v, H', J.os, J.bare, J.base, J.hok, rv, q⟩
    cases fl with
    | ret u => obtain ⟨v, σ', H', J, rv, q⟩ := hs; exact fin J rv q
    | next => obtain ⟨σ', H', J, q⟩ := hs; exact fin (v := V.non) (u := Value.none) J rfl q
    | brk => obtain ⟨_, _, _, q⟩ := hs; exact q.elim
    | cont => obtain ⟨_, _, _, q⟩ := hs; exact q.elim
  subst hb
  refine ks_wpAt_execs_cons (ks_wpAt_Expr_any ?_ ?_ ?_)
  rotate_left
  · show (env.scope.kind == .module && _) = false
    rw [hes, S.kind]; rfl
  · rfl
  refine ks_wpAt_MethodCall (pl := (do return (← importBound (.Call (.Name "super" p0) [] [] p1) env).getD true)) ?_ ?_
  rotate_left
  · rw [arm_eval_Call]
    have hpos : methodCallPos true (.Call (.Name "super" p0) [] [] p1) env p2 p4 = pure p4 := by unfold methodCallPos; simp [hline]
    unfold methodCall
    rw [show methodCallForm ([Expr.Constant (.str z) j p3].length + ([] : List Keyword).length) (backTo p4 (starEach [Expr.Constant (.str z) j p3] env)) (backToKw p4 (keywordEach [] env)) = true from rfl, hpos]
    rfl
  have bk : ∀ b o, base.get? b = some o → h₀.get? b = some o := fun b o e => hk b o (e0.bs b o e).1
  have K0 : K.In h₀ := kX.keeps bk
  have ef : env.func = some f := by rw [← he]
  have eco : env.code = .ref cda := by rw [← he]
  have ko : ∀ x, env.kindOf x = scope.names.lookup x := fun x => by show env.scope.names.lookup x = _; rw [hes]
  have ek : env.scope.kind = .function := by rw [hes]; exact S.kind
  obtain ⟨nm, q, N, bs, bm, sn, sub, ab, col, dd, k0, k1, k2, k3, k5, hC, hbm⟩ := T.cls
  refine ks_wpAt_super_base ((ko _).trans S.sup) ((ko _).trans S.dcl) (by decide) ef (K0 _ _ lk) rfl hpar eco (K0 _ _ hcode) rfl hvs hfile htop ?_
  obtain ⟨mb, hb1, hb2⟩ := e0.mod.blt
  refine PySem.W.ks_loadName_global ek ((ko _).trans S.sup) (Calls.loadGlobal_builtin (by show Heap.Ns _ env.globals mg; rw [← he]; exact e0.mod.glob.keeps bk) hmg (by show Heap.Ns _ env.builtins mb; rw [← he]; exact hb1.keeps bk) ((hb2 _ (by decide)).trans (by decide +kernel : bootBuiltins "super" = some (.type "super"))) ⟨rfl, ?_⟩)
  refine wpAny_loadName_free ek ((ko _).trans S.dcl) (by rw [hec]; rfl) ⟨_, K0 _ _ hcell, rfl⟩ ?_
  rw [har]
  obtain ⟨mL, hns2, hlk2⟩ := I.loc
  obtain ⟨u2, hu2, hl2⟩ := hlk2 0 "self" (.ref a) rfl rfl (.inl ((ko _).trans S.slf))
  obtain rfl : u2 = Value.ref a := hu2
  have hmL : mL ("self" : Str) = some (.ref a) := by
    rcases hl2 with ⟨_, z⟩ | ⟨z, _⟩
    · exact z
    · have := (ko ("self" : Str)).trans S.slf
      rcases z with z | z <;> (rw [this] at z; cases z)
  refine wpAny_loadName_local ek ((ko _).trans S.slf) hns2 hmL ?_
  refine ks_wpAny_isType_cls (K0 _ _ hC) rfl ⟨rfl, ?_⟩
  obtain ⟨t1, hoa⟩ := exo_at I.hok ha
  refine ks_wpAny_call_super (K0 _ _ hC) rfl hoa rfl (fun c e => by cases e) (PySem.W.looks_mroIn K0 hmro) fun h1 e1 kp1 => ?_
  have I1 := I.kept (t' := s.toks + 1) kp1
  have K1 : K.In h1 := I1.kIn
  have hoa1 := kp1 _ _ hoa
  have hci : PySem.W.clsIn K C = some { name := nm, bases := bs, mro := .ref C :: bm, ns := N, qualname := q, hasDict := true, slotNames := sn, subclasses := sub, abstract := ab, collection := col, hasDel := false } := by unfold PySem.W.clsIn; rw [hC]
  have iA : PySem.W.InstAt h1 a { cls := .ref C, dict := none, data := .fields #[.ref t1, .none, .none, .none, .bool false, .none] } C none := ⟨hoa1, rfl, rfl, trivial⟩
  unfold PySem.W.ks_superIn at hm
  rw [hci] at hm
  refine PySem.W.kxs_getMethod PySem.W.kxs_ValueError e1 (PySem.W.looks_opaque K1 hso) ((PySem.W.looks_clsIn K1 hci).andThen .now) rfl K1 hm (iA.type.andThen (PySem.W.looks_subIn K1 hB)) (PySem.W.ks_ne K1 iA hci) (by decide) ?_
  obtain ⟨u, hu⟩ : ∃ u, u = h1.objs.size := ⟨_, rfl⟩
  have I2 : Inv X [] [some (.ref a)] H { s with heap := h1.push (PySem.W.kxs_mw "ValueError.__init__" a), toks := s.toks + 1 + 1 } := I1.kept (t' := s.toks + 1 + 1) fun b o e => Heap.get?_push_of_some _ e
  have I3 : Inv X [(u, PySem.W.kxs_mw "ValueError.__init__" a)] [some (.ref a)] H { s with heap := h1.push (PySem.W.kxs_mw "ValueError.__init__" a), toks := s.toks + 1 + 1 } := I2.pins_of fun p hp => by
    rw [List.mem_singleton.mp hp]
    subst hu
    exact ⟨Heap.get?_push_at rfl rfl, I1.hok.fresh (Nat.le_refl _), Nat.ne_of_gt I1.lt, I1.nofs (Nat.le_refl _), fun v z => by cases z⟩
  rw [← hu]
  refine PySem.W.kxs_callWith (i := "ValueError.__init__") (x := a) rfl ?_
  refine Calls.evalArgs_plain ?_
  refine thn ((pa_cons pe_str pa_nil : PA X [.Constant (.str z) j p3] _).run p4 _ _ _ H (fun vs H' => H' = H ∧ vs.length = 1) I3 ⟨rfl, rfl⟩) fun us3 s3 ⟨vs3, H3, I4, r3, eH, l3⟩ => ?_
  rw [eH] at I4
  obtain ⟨hu3, _⟩ := I4.pin (u, PySem.W.kxs_mw "ValueError.__init__" a) (List.mem_append.mpr (.inr List.mem_cons_self))
  refine ⟨hu3, ?_⟩
  obtain ⟨t3, ho3⟩ := exo_at I4.hok ha
  have hz : us3.length ≤ sizeLine := by rw [← Paired.length r3, l3, sizeLine_eq]; omega
  have K4 : K.In s3.heap := I4.kIn
  have end_ : ∀ (h' : Heap) (tk : Nat), (∀ b o, b ≠ a → s3.heap.get? b = some o → h'.get? b = some o) → h'.get? a = some ({ cls := .ref C, dict := none, data := .fields #[.ref s3.heap.objs.size, .none, .none, .none, .bool false, .none] } : Obj) → Inv X [] [some (.ref a)] H { s3 with heap := h', toks := tk } := fun h' tk kk hx => by
    have I5 : Inv X [] [some (.ref a)] H s3 := I4.pins_of fun p hp => absurd hp ((by simp))
    have J := I5.write (t' := tk) (x := a) (e := a) (o := exo a C none) (by rw [ha]; exact True.intro) (.inl rfl) kk ⟨_, hx⟩ (exo_ok hx)
    have eu : upd H a (exo a C none) = H := by
      funext b
      by_cases hb : b = a
      · subst hb; rw [upd_same]; exact ha.symm
      · exact upd_ne hb
    rw [eu] at J
    exact J
  refine wpAny_call (codeAny_of_tree ?_)
  show wpAny _ (A.deeper env).in1 (callAny (.ref u) ⟨us3, []⟩) _ _ _
  unfold callAny
  refine wpAny_bind (wpAny_load hu3 ?_)
  have m1 : (Value.type "method-wrapper" == Value.type "method" || Value.type "method-wrapper" == Value.type "builtin_function_or_method" || Value.type "method-wrapper" == Value.type "method-wrapper") = true := by decide
  simp only [PySem.W.kxs_mw, m1, if_true]
  refine PySem.W.KFB.if_so (by decide) ?_
  refine wpAny_bind (PySem.W.check_bound_init F.excBase_ValueError.toExcCallFacts (K4 _ _ hC) ho3 rfl ?_)
  refine wpAny_bind (wpAny_pure (wpAny_pure ?_))
  refine ⟨plainId_quiet F.excBase_ValueError.init.plain _, codeAny_builtin F.excBase_ValueError.initEntry ?_⟩
  refine PySem.W.exc_init_tree (cls := .ref C) (t0 := t3) (dv := none) (c2 := .none) (c3 := .none) (b4 := .bool false) ho3 hz fun h' kk hx ht => ?_
  refine PySem.wpAt_of_wpAny (wpAny_mono (hJ (end_ h' s3.toks kk hx)) (fun fl s' z => z) fun e s' z => z.elim)
theorem fn_exc1 (lk : K.lookup f = some ⟨oc, od, .func (PySem.W.ksFn "__init__" qual params body scope dV kV doc pm an (.ref cda) ct cc), osl⟩) (hb : body = [supS z j p0 p1 p2 p3 p4 p5, asgS fld1 p6 p7 p8 p9]) (hline : (p2.endLine == p4.line) = true)
    (hcd : PySem.W.codeIn K (.ref cda) qual = true) (hpar : (params.posonlyargs ++ params.args).head? = some ar) (har : ar.arg = "self") (hcode : K.lookup cda = some ⟨ccl, cdd, .fields vs0, ccs⟩) (hvs : vs0[2]? = some (.str file tf)) (hfile : ((P.main.file : Str) == file) = true)
    (hcell : K.lookup cc = some ⟨cl, cld, .cell (some (.ref C)), csl⟩) (T : OexC K C) (hB : PySem.W.subIn K (.ref C) (.type "ValueError") = some true) (hm : PySem.W.ks_superIn K C C "__init__" = some (some (.builtin "ValueError.__init__")))
    (hno1 : PySem.W.findIn K (.ref C) fld1 = some none) (hso : PySem.W.nsIn K cStatics "thirdparty.any" = some none) (hmro : PySem.W.mroIn K C (.ref C) = some true) (hmg : mg "super" = none) (htop : (P.main.scope.names.lookup ("super" : Str)).isSome = false) (S : ExcScope scope [fld1]) :
    FnOk P w K mg base CT (k + 1) f (PySem.W.ksFn "__init__" qual params body scope dV kV doc pm an (.ref cda) ct cc) ["self", fld1] (spXI K C [fld1]) := by
  refine ⟨fun vs H Q E ⟨a, ws, e, hl, _⟩ => by rw [e]; simp [hl], fun A outer s H args us vs Q E hr e0 hbd r hsp => ?_⟩
  obtain ⟨a, ws, rfl, hl, ha, hq⟩ := hsp
  obtain ⟨y1, rfl⟩ : ∃ y1, ws = [y1] := by
    match ws, hl with
    | [y], _ => exact ⟨y, rfl⟩
  cases r with
  | @cons _ u0 _ ur ra rr =>
  cases rr with
  | @cons _ uy1 _ ur2 ry1 rn =>
  cases rn
  obtain rfl : u0 = Value.ref a := ra
  obtain ⟨fl1, ne1, nd1, nc1⟩ := S.fl fld1 (by simp)
  have KX : K.In s.heap := e0.mod.kin.keeps fun b o e => (e0.bs b o e).1
  have lim : s.heap.NoLimit := e0.mod.nolimit.keeps fun b o e => (e0.bs b o e).1
  refine ks_codeAny_call_defAt (fd := PySem.W.ksFn "__init__" qual params body scope dV kV doc pm an (.ref cda) ct cc) (body := body) (binds := [("self", Value.ref a), (fld1, uy1)]) hr.depth (KX _ _ lk) rfl lim (PySem.W.codeRec_of KX hcd) rfl hbd S.nocell
    (fun x hx => by
      simp only [List.mem_cons, List.not_mem_nil, or_false] at hx
      rcases hx with rfl | rfl
      · exact S.slf
      · exact fl1) (fun h₀ hns hk => ?_) S.co S.gen S.kind
  show _root_.PySem.wpAt (model P w) (A.deeper (PySem.W.ksEnv qual scope s.heap.objs.size f (.ref cda) cc)) (.func body (PySem.W.ksEnv qual scope s.heap.objs.size f (.ref cda) cc)) (execs body (PySem.W.ksEnv qual scope s.heap.objs.size f (.ref cda) cc)) _ _ _
  obtain ⟨env, he⟩ : ∃ env, PySem.W.ksEnv qual scope s.heap.objs.size f (.ref cda) cc = env := ⟨_, rfl⟩
  rw [he]
  have hel : env.locals = s.heap.objs.size := by rw [← he]
  have hes : env.scope = scope := by rw [← he]
  have hec : env.cells = [(("__class__" : Str), cc)] := by rw [← he]
  let X : Cx := { prog := P, w := w, K := K, mg := mg, base := base, A := A.deeper env, N := ["self", fld1], s_0 := s, H_0 := H, env := env, outer := outer, stack := env :: outer, ex := [], fn := fun _ => false, calm := true, pn := [], xe := fun _ _ => False }
  have kX : K.In base := e0.mod.kin
  have hcl1 : ∀ x c, env.cells.lookup x = some c → x = "__class__" ∧ c = cc := fun x c h => by
    rw [hec, List.lookup_cons] at h
    cases e : x == ("__class__" : Str) with
    | true => rw [e] at h; cases h; exact ⟨by simpa using e, rfl⟩
    | false => rw [e] at h; cases h
  have I : Inv X [] [some (.ref a), some y1] H { s with heap := h₀, toks := s.toks + 2 } := by
    have noA : ∀ b : Addr, b ∉ X.ex := fun b z => absurd (show b ∈ ([] : List Addr) from z) (by simp)
    refine ⟨⟨e0.mod, by show env.scope.kind = _; rw [hes]; exact S.kind, by show env.globals = _; rw [← he], by show env.builtins = _; rw [← he], by show _ ≤ env.locals; rw [hel]; exact Nat.le_refl _, fun x1 x2 c h1 h2 => (hcl1 x1 c h1).1.trans (hcl1 x2 c h2).1.symm, fun x hx => ?_, fun x c h => (nomatch h), fun _ => hr.hd, Around.frames_deeper e0.frames, .inr ⟨rfl, by show env.frame = some env.locals; rw [← he]⟩, fun b z => absurd z (noA b), e0.bs, e0.bsz, fun b _ _ => noA b, fun b z => absurd z (noA b), e0.funs, e0.frf⟩,
      rfl, e0.bare, Un.kept hk, ⟨_, by show h₀.Ns env.locals _; rw [hel]; exact hns, fun i x v h1 h2 h3 => ?_⟩, fun x c h => ?_, by show H env.locals = none; rw [hel]; exact e0.hok.fresh (Nat.le_refl _), fun x c h => ?_, fun p hp => absurd (show p ∈ ([] : List (Addr × Obj)) from hp) (by simp), e0.hok.kept hk, rfl⟩
    · have hx : env.scope.names.lookup x = some .cell ∨ env.scope.names.lookup x = some .free := hx
      rw [hes] at hx
      rcases hx with hx | hx
      · exact absurd rfl (S.nocell _ (PySem.mem_of_lookup hx))
      · have := S.free _ (PySem.mem_of_lookup hx) rfl
        exact ⟨cc, by show env.cells.lookup x = _; rw [hec, show x = "__class__" from this]; rfl⟩
    · refine (?_ : ∃ u, RelV v u ∧ Look env h₀ _ x u)
      have hko : ∀ x, env.kindOf x = scope.names.lookup x := fun x => by show env.scope.names.lookup x = _; rw [hes]
      match i, h1, h2 with
      | 0, h1, h2 =>
        cases h1; cases h2
        refine ⟨.ref a, rfl, .inl ⟨(hko _).trans S.slf, ?_⟩⟩
        show List.lookup (Str.ofString "self") [(fld1, uy1), ("self", Value.ref a)] = _
        simp [List.lookup_cons, show ((Str.ofString "self") == fld1) = false from by simpa using Ne.symm ne1]
      | 1, h1, h2 =>
        cases h1; cases h2
        refine ⟨uy1, ry1, .inl ⟨(hko _).trans fl1, ?_⟩⟩
        show List.lookup fld1 [(fld1, uy1), ("self", Value.ref a)] = _
        simp [List.lookup_cons]
    · obtain ⟨_, rfl⟩ := hcl1 x c h
      exact ⟨some (.ref C), _, hk _ _ (KX _ _ hcell), rfl⟩
    · obtain ⟨_, rfl⟩ := hcl1 x c h
      exact (e0.bs _ _ (kX _ _ hcell)).2
  have hJ : ∀ {s4 : Shared}, Inv X [] [some (.ref a), some y1] H s4 → wpAny (model P w) (A.deeper env) (execs [asgS fld1 p6 p7 p8 p9] env) (fun fl s' => CR CT outer P w H s Q E (.ok (.ret (match fl with | .ret v => v | _ => .none))) s') (fun _ _ => False) s4 := fun {s4} J => by
    have v0 : Vis X.env.scope ("self" : Str) := .inl (by show env.scope.names.lookup _ = _; rw [hes]; exact S.slf)
    have v1 : Vis X.env.scope fld1 := .inl (by show env.scope.names.lookup _ = _; rw [hes]; exact fl1)
    have key := (pss_one (ps_ost (X := X) (f := fld1) (p' := p7) (pos := p9) (pe_var (i := 0) (pos := p6) rfl v0) (pe_var (i := 1) (pos := p8) rfl v1 nd1 nc1))).run [] s4 [some (.ref a), some y1] H { nx := fun _ H' => Q .non H', rt := Q } J
      ⟨y1, rfl, .ref a, rfl, a, C, rfl, T, hno1, .inl ⟨ha, fun dx n1 n2 => hq dx n1 n2⟩⟩
    refine wpAny_mono key (fun fl s' hs => ?_) fun _ _ z => z
    have fin : ∀ {σ' : L2.St} {H' : Hp} {v : V} {u : Value}, Inv X [] σ' H' s' → RelV v u → Q v H' → CE outer P w H s Q u s' := fun {σ' H' v u} J rv q => ⟨v, H', J.os, J.bare, J.base, J.hok, rv, q⟩
    cases fl with
    | ret u => obtain ⟨v, σ', H', J, rv, q⟩ := hs; exact fin J rv q
    | next => obtain ⟨σ', H', J, q⟩ := hs; exact fin (v := V.non) (u := Value.none) J rfl q
    | brk => obtain ⟨_, _, _, q⟩ := hs; exact q.elim
    | cont => obtain ⟨_, _, _, q⟩ := hs; exact q.elim
  subst hb
  refine ks_wpAt_execs_cons (ks_wpAt_Expr_any ?_ ?_ ?_)
  rotate_left
  · show (env.scope.kind == .module && _) = false
    rw [hes, S.kind]; rfl
  · rfl
  refine ks_wpAt_MethodCall (pl := (do return (← importBound (.Call (.Name "super" p0) [] [] p1) env).getD true)) ?_ ?_
  rotate_left
  · rw [arm_eval_Call]
    have hpos : methodCallPos true (.Call (.Name "super" p0) [] [] p1) env p2 p4 = pure p4 := by unfold methodCallPos; simp [hline]
    unfold methodCall
    rw [show methodCallForm ([Expr.Constant (.str z) j p3].length + ([] : List Keyword).length) (backTo p4 (starEach [Expr.Constant (.str z) j p3] env)) (backToKw p4 (keywordEach [] env)) = true from rfl, hpos]
    rfl
  have bk : ∀ b o, base.get? b = some o → h₀.get? b = some o := fun b o e => hk b o (e0.bs b o e).1
  have K0 : K.In h₀ := kX.keeps bk
  have ef : env.func = some f := by rw [← he]
  have eco : env.code = .ref cda := by rw [← he]
  have ko : ∀ x, env.kindOf x = scope.names.lookup x := fun x => by show env.scope.names.lookup x = _; rw [hes]
  have ek : env.scope.kind = .function := by rw [hes]; exact S.kind
  obtain ⟨nm, q, N, bs, bm, sn, sub, ab, col, dd, k0, k1, k2, k3, k5, hC, hbm⟩ := T.cls
  refine ks_wpAt_super_base ((ko _).trans S.sup) ((ko _).trans S.dcl) (by decide) ef (K0 _ _ lk) rfl hpar eco (K0 _ _ hcode) rfl hvs hfile htop ?_
  obtain ⟨mb, hb1, hb2⟩ := e0.mod.blt
  refine PySem.W.ks_loadName_global ek ((ko _).trans S.sup) (Calls.loadGlobal_builtin (by show Heap.Ns _ env.globals mg; rw [← he]; exact e0.mod.glob.keeps bk) hmg (by show Heap.Ns _ env.builtins mb; rw [← he]; exact hb1.keeps bk) ((hb2 _ (by decide)).trans (by decide +kernel : bootBuiltins "super" = some (.type "super"))) ⟨rfl, ?_⟩)
  refine wpAny_loadName_free ek ((ko _).trans S.dcl) (by rw [hec]; rfl) ⟨_, K0 _ _ hcell, rfl⟩ ?_
  rw [har]
  obtain ⟨mL, hns2, hlk2⟩ := I.loc
  obtain ⟨u2, hu2, hl2⟩ := hlk2 0 "self" (.ref a) rfl rfl (.inl ((ko _).trans S.slf))
  obtain rfl : u2 = Value.ref a := hu2
  have hmL : mL ("self" : Str) = some (.ref a) := by
    rcases hl2 with ⟨_, z⟩ | ⟨z, _⟩
    · exact z
    · have := (ko ("self" : Str)).trans S.slf
      rcases z with z | z <;> (rw [this] at z; cases z)
  refine wpAny_loadName_local ek ((ko _).trans S.slf) hns2 hmL ?_
  refine ks_wpAny_isType_cls (K0 _ _ hC) rfl ⟨rfl, ?_⟩
  obtain ⟨t1, hoa⟩ := exo_at I.hok ha
  refine ks_wpAny_call_super (K0 _ _ hC) rfl hoa rfl (fun c e => by cases e) (PySem.W.looks_mroIn K0 hmro) fun h1 e1 kp1 => ?_
  have I1 := I.kept (t' := s.toks + 2) kp1
  have K1 : K.In h1 := I1.kIn
  have hoa1 := kp1 _ _ hoa
  have hci : PySem.W.clsIn K C = some { name := nm, bases := bs, mro := .ref C :: bm, ns := N, qualname := q, hasDict := true, slotNames := sn, subclasses := sub, abstract := ab, collection := col, hasDel := false } := by unfold PySem.W.clsIn; rw [hC]
  have iA : PySem.W.InstAt h1 a { cls := .ref C, dict := none, data := .fields #[.ref t1, .none, .none, .none, .bool false, .none] } C none := ⟨hoa1, rfl, rfl, trivial⟩
  unfold PySem.W.ks_superIn at hm
  rw [hci] at hm
  refine PySem.W.kxs_getMethod PySem.W.kxs_ValueError e1 (PySem.W.looks_opaque K1 hso) ((PySem.W.looks_clsIn K1 hci).andThen .now) rfl K1 hm (iA.type.andThen (PySem.W.looks_subIn K1 hB)) (PySem.W.ks_ne K1 iA hci) (by decide) ?_
  obtain ⟨u, hu⟩ : ∃ u, u = h1.objs.size := ⟨_, rfl⟩
  have I2 : Inv X [] [some (.ref a), some y1] H { s with heap := h1.push (PySem.W.kxs_mw "ValueError.__init__" a), toks := s.toks + 2 + 1 } := I1.kept (t' := s.toks + 2 + 1) fun b o e => Heap.get?_push_of_some _ e
  have I3 : Inv X [(u, PySem.W.kxs_mw "ValueError.__init__" a)] [some (.ref a), some y1] H { s with heap := h1.push (PySem.W.kxs_mw "ValueError.__init__" a), toks := s.toks + 2 + 1 } := I2.pins_of fun p hp => by
    rw [List.mem_singleton.mp hp]
    subst hu
    exact ⟨Heap.get?_push_at rfl rfl, I1.hok.fresh (Nat.le_refl _), Nat.ne_of_gt I1.lt, I1.nofs (Nat.le_refl _), fun v z => by cases z⟩
  rw [← hu]
  refine PySem.W.kxs_callWith (i := "ValueError.__init__") (x := a) rfl ?_
  refine Calls.evalArgs_plain ?_
  refine thn ((pa_cons pe_str pa_nil : PA X [.Constant (.str z) j p3] _).run p4 _ _ _ H (fun vs H' => H' = H ∧ vs.length = 1) I3 ⟨rfl, rfl⟩) fun us3 s3 ⟨vs3, H3, I4, r3, eH, l3⟩ => ?_
  rw [eH] at I4
  obtain ⟨hu3, _⟩ := I4.pin (u, PySem.W.kxs_mw "ValueError.__init__" a) (List.mem_append.mpr (.inr List.mem_cons_self))
  refine ⟨hu3, ?_⟩
  obtain ⟨t3, ho3⟩ := exo_at I4.hok ha
  have hz : us3.length ≤ sizeLine := by rw [← Paired.length r3, l3, sizeLine_eq]; omega
  have K4 : K.In s3.heap := I4.kIn
  have end_ : ∀ (h' : Heap) (tk : Nat), (∀ b o, b ≠ a → s3.heap.get? b = some o → h'.get? b = some o) → h'.get? a = some ({ cls := .ref C, dict := none, data := .fields #[.ref s3.heap.objs.size, .none, .none, .none, .bool false, .none] } : Obj) → Inv X [] [some (.ref a), some y1] H { s3 with heap := h', toks := tk } := fun h' tk kk hx => by
    have I5 : Inv X [] [some (.ref a), some y1] H s3 := I4.pins_of fun p hp => absurd hp ((by simp))
    have J := I5.write (t' := tk) (x := a) (e := a) (o := exo a C none) (by rw [ha]; exact True.intro) (.inl rfl) kk ⟨_, hx⟩ (exo_ok hx)
    have eu : upd H a (exo a C none) = H := by
      funext b
      by_cases hb : b = a
      · subst hb; rw [upd_same]; exact ha.symm
      · exact upd_ne hb
    rw [eu] at J
    exact J
  refine wpAny_call (codeAny_of_tree ?_)
  show wpAny _ (A.deeper env).in1 (callAny (.ref u) ⟨us3, []⟩) _ _ _
  unfold callAny
  refine wpAny_bind (wpAny_load hu3 ?_)
  have m1 : (Value.type "method-wrapper" == Value.type "method" || Value.type "method-wrapper" == Value.type "builtin_function_or_method" || Value.type "method-wrapper" == Value.type "method-wrapper") = true := by decide
  simp only [PySem.W.kxs_mw, m1, if_true]
  refine PySem.W.KFB.if_so (by decide) ?_
  refine wpAny_bind (PySem.W.check_bound_init F.excBase_ValueError.toExcCallFacts (K4 _ _ hC) ho3 rfl ?_)
  refine wpAny_bind (wpAny_pure (wpAny_pure ?_))
  refine ⟨plainId_quiet F.excBase_ValueError.init.plain _, codeAny_builtin F.excBase_ValueError.initEntry ?_⟩
  refine PySem.W.exc_init_tree (cls := .ref C) (t0 := t3) (dv := none) (c2 := .none) (c3 := .none) (b4 := .bool false) ho3 hz fun h' kk hx ht => ?_
  refine PySem.wpAt_of_wpAny (wpAny_mono (hJ (end_ h' s3.toks kk hx)) (fun fl s' z => z) fun e s' z => z.elim)
theorem fn_exc2 (lk : K.lookup f = some ⟨oc, od, .func (PySem.W.ksFn "__init__" qual params body scope dV kV doc pm an (.ref cda) ct cc), osl⟩) (hb : body = [supS z j p0 p1 p2 p3 p4 p5, asgS fld1 p6 p7 p8 p9, asgS fld2 q6 q7 q8 q9]) (hline : (p2.endLine == p4.line) = true)
    (hcd : PySem.W.codeIn K (.ref cda) qual = true) (hpar : (params.posonlyargs ++ params.args).head? = some ar) (har : ar.arg = "self") (hcode : K.lookup cda = some ⟨ccl, cdd, .fields vs0, ccs⟩) (hvs : vs0[2]? = some (.str file tf)) (hfile : ((P.main.file : Str) == file) = true)
    (hcell : K.lookup cc = some ⟨cl, cld, .cell (some (.ref C)), csl⟩) (T : OexC K C) (hB : PySem.W.subIn K (.ref C) (.type "ValueError") = some true) (hm : PySem.W.ks_superIn K C C "__init__" = some (some (.builtin "ValueError.__init__")))
    (hno1 : PySem.W.findIn K (.ref C) fld1 = some none) (hno2 : PySem.W.findIn K (.ref C) fld2 = some none) (hso : PySem.W.nsIn K cStatics "thirdparty.any" = some none) (hmro : PySem.W.mroIn K C (.ref C) = some true) (hmg : mg "super" = none) (htop : (P.main.scope.names.lookup ("super" : Str)).isSome = false) (S : ExcScope scope [fld1, fld2]) (hne : fld1 ≠ fld2) :
    FnOk P w K mg base CT (k + 1) f (PySem.W.ksFn "__init__" qual params body scope dV kV doc pm an (.ref cda) ct cc) ["self", fld1, fld2] (spXI K C [fld1, fld2]) := by
  refine ⟨fun vs H Q E ⟨a, ws, e, hl, _⟩ => by rw [e]; simp [hl], fun A outer s H args us vs Q E hr e0 hbd r hsp => ?_⟩
  obtain ⟨a, ws, rfl, hl, ha, hq⟩ := hsp
  obtain ⟨y1, y2, rfl⟩ : ∃ y1 y2, ws = [y1, y2] := by
    match ws, hl with
    | [y, y'], _ => exact ⟨y, y', rfl⟩
  cases r with
  | @cons _ u0 _ ur ra rr =>
  cases rr with
  | @cons _ uy1 _ ur2 ry1 rr =>
  cases rr with
  | @cons _ uy2 _ ur3 ry2 rn =>
  cases rn
  obtain rfl : u0 = Value.ref a := ra
  obtain ⟨fl1, ne1, nd1, nc1⟩ := S.fl fld1 (by simp)
  obtain ⟨fl2, ne2, nd2, nc2⟩ := S.fl fld2 (by simp)
  have KX : K.In s.heap := e0.mod.kin.keeps fun b o e => (e0.bs b o e).1
  have lim : s.heap.NoLimit := e0.mod.nolimit.keeps fun b o e => (e0.bs b o e).1
  refine ks_codeAny_call_defAt (fd := PySem.W.ksFn "__init__" qual params body scope dV kV doc pm an (.ref cda) ct cc) (body := body) (binds := [("self", Value.ref a), (fld1, uy1), (fld2, uy2)]) hr.depth (KX _ _ lk) rfl lim (PySem.W.codeRec_of KX hcd) rfl hbd S.nocell
    (fun x hx => by
      simp only [List.mem_cons, List.not_mem_nil, or_false] at hx
      rcases hx with rfl | rfl | rfl
      · exact S.slf
      · exact fl1
      · exact fl2) (fun h₀ hns hk => ?_) S.co S.gen S.kind
  show _root_.PySem.wpAt (model P w) (A.deeper (PySem.W.ksEnv qual scope s.heap.objs.size f (.ref cda) cc)) (.func body (PySem.W.ksEnv qual scope s.heap.objs.size f (.ref cda) cc)) (execs body (PySem.W.ksEnv qual scope s.heap.objs.size f (.ref cda) cc)) _ _ _
  obtain ⟨env, he⟩ : ∃ env, PySem.W.ksEnv qual scope s.heap.objs.size f (.ref cda) cc = env := ⟨_, rfl⟩
  rw [he]
  have hel : env.locals = s.heap.objs.size := by rw [← he]
  have hes : env.scope = scope := by rw [← he]
  have hec : env.cells = [(("__class__" : Str), cc)] := by rw [← he]
  let X : Cx := { prog := P, w := w, K := K, mg := mg, base := base, A := A.deeper env, N := ["self", fld1, fld2], s_0 := s, H_0 := H, env := env, outer := outer, stack := env :: outer, ex := [], fn := fun _ => false, calm := true, pn := [], xe := fun _ _ => False }
  have kX : K.In base := e0.mod.kin
  have hcl1 : ∀ x c, env.cells.lookup x = some c → x = "__class__" ∧ c = cc := fun x c h => by
    rw [hec, List.lookup_cons] at h
    cases e : x == ("__class__" : Str) with
    | true => rw [e] at h; cases h; exact ⟨by simpa using e, rfl⟩
    | false => rw [e] at h; cases h
  have I : Inv X [] [some (.ref a), some y1, some y2] H { s with heap := h₀, toks := s.toks + 3 } := by
    have noA : ∀ b : Addr, b ∉ X.ex := fun b z => absurd (show b ∈ ([] : List Addr) from z) (by simp)
    refine ⟨⟨e0.mod, by show env.scope.kind = _; rw [hes]; exact S.kind, by show env.globals = _; rw [← he], by show env.builtins = _; rw [← he], by show _ ≤ env.locals; rw [hel]; exact Nat.le_refl _, fun x1 x2 c h1 h2 => (hcl1 x1 c h1).1.trans (hcl1 x2 c h2).1.symm, fun x hx => ?_, fun x c h => (nomatch h), fun _ => hr.hd, Around.frames_deeper e0.frames, .inr ⟨rfl, by show env.frame = some env.locals; rw [← he]⟩, fun b z => absurd z (noA b), e0.bs, e0.bsz, fun b _ _ => noA b, fun b z => absurd z (noA b), e0.funs, e0.frf⟩,
      rfl, e0.bare, Un.kept hk, ⟨_, by show h₀.Ns env.locals _; rw [hel]; exact hns, fun i x v h1 h2 h3 => ?_⟩, fun x c h => ?_, by show H env.locals = none; rw [hel]; exact e0.hok.fresh (Nat.le_refl _), fun x c h => ?_, fun p hp => absurd (show p ∈ ([] : List (Addr × Obj)) from hp) (by simp), e0.hok.kept hk, rfl⟩
    · have hx : env.scope.names.lookup x = some .cell ∨ env.scope.names.lookup x = some .free := hx
      rw [hes] at hx
      rcases hx with hx | hx
      · exact absurd rfl (S.nocell _ (PySem.mem_of_lookup hx))
      · have := S.free _ (PySem.mem_of_lookup hx) rfl
        exact ⟨cc, by show env.cells.lookup x = _; rw [hec, show x = "__class__" from this]; rfl⟩
    · refine (?_ : ∃ u, RelV v u ∧ Look env h₀ _ x u)
      have hko : ∀ x, env.kindOf x = scope.names.lookup x := fun x => by show env.scope.names.lookup x = _; rw [hes]
      match i, h1, h2 with
      | 0, h1, h2 =>
        cases h1; cases h2
        refine ⟨.ref a, rfl, .inl ⟨(hko _).trans S.slf, ?_⟩⟩
        show List.lookup (Str.ofString "self") [(fld2, uy2), (fld1, uy1), ("self", Value.ref a)] = _
        simp [List.lookup_cons, show ((Str.ofString "self") == fld1) = false from by simpa using Ne.symm ne1, show ((Str.ofString "self") == fld2) = false from by simpa using Ne.symm ne2]
      | 1, h1, h2 =>
        cases h1; cases h2
        refine ⟨uy1, ry1, .inl ⟨(hko _).trans fl1, ?_⟩⟩
        show List.lookup fld1 [(fld2, uy2), (fld1, uy1), ("self", Value.ref a)] = _
        simp [List.lookup_cons, show (fld1 == fld2) = false from by simpa using hne]
      | 2, h1, h2 =>
        cases h1; cases h2
        refine ⟨uy2, ry2, .inl ⟨(hko _).trans fl2, ?_⟩⟩
        show List.lookup fld2 [(fld2, uy2), (fld1, uy1), ("self", Value.ref a)] = _
        simp [List.lookup_cons]
    · obtain ⟨_, rfl⟩ := hcl1 x c h
      exact ⟨some (.ref C), _, hk _ _ (KX _ _ hcell), rfl⟩
    · obtain ⟨_, rfl⟩ := hcl1 x c h
      exact (e0.bs _ _ (kX _ _ hcell)).2
  have hJ : ∀ {s4 : Shared}, Inv X [] [some (.ref a), some y1, some y2] H s4 → wpAny (model P w) (A.deeper env) (execs [asgS fld1 p6 p7 p8 p9, asgS fld2 q6 q7 q8 q9] env) (fun fl s' => CR CT outer P w H s Q E (.ok (.ret (match fl with | .ret v => v | _ => .none))) s') (fun _ _ => False) s4 := fun {s4} J => by
    have v0 : Vis X.env.scope ("self" : Str) := .inl (by show env.scope.names.lookup _ = _; rw [hes]; exact S.slf)
    have v1 : Vis X.env.scope fld1 := .inl (by show env.scope.names.lookup _ = _; rw [hes]; exact fl1)
    have v2 : Vis X.env.scope fld2 := .inl (by show env.scope.names.lookup _ = _; rw [hes]; exact fl2)
    have key := (pss_cons (ps_ost (X := X) (f := fld1) (p' := p7) (pos := p9) (pe_var (i := 0) (pos := p6) rfl v0) (pe_var (i := 1) (pos := p8) rfl v1 nd1 nc1)) (pss_one (ps_ost (X := X) (f := fld2) (p' := q7) (pos := q9) (pe_var (i := 0) (pos := q6) rfl v0) (pe_var (i := 2) (pos := q8) rfl v2 nd2 nc2)))).run [] s4 [some (.ref a), some y1, some y2] H { nx := fun _ H' => Q .non H', rt := Q } J
      ⟨y1, rfl, .ref a, rfl, a, C, rfl, T, hno1, .inl ⟨ha, fun dx n1 n2 => ⟨y2, rfl, .ref a, rfl, a, C, rfl, T, hno2, .inr ⟨dx, [(fld1, y1)], upd_same, by rw [upd_ne n2, upd_same], by show 1 ≤ 900; decide, by
        have q := hq dx n1 n2
        have e : upd (upd (upd H dx (exd dx [(fld1, y1)])) a (exo a C (some dx))) dx (exd dx [(fld2, y2), (fld1, y1)]) = upd (upd H dx (exd dx [(fld2, y2), (fld1, y1)])) a (exo a C (some dx)) := by
          funext b
          by_cases h1 : b = dx
          · subst h1; rw [upd_same, upd_ne n2, upd_same]
          · rw [upd_ne h1]
            by_cases h2 : b = a
            · subst h2; rw [upd_same, upd_same]
            · rw [upd_ne h2, upd_ne h2, upd_ne h1, upd_ne h1]
        show Q .non (upd (upd (upd H dx (exd dx [(fld1, y1)])) a (exo a C (some dx))) dx (exd dx [(fld2, y2), (fld1, y1)]))
        rw [e]; exact q⟩⟩⟩⟩
    refine wpAny_mono key (fun fl s' hs => ?_) fun _ _ z => z
    have fin : ∀ {σ' : L2.St} {H' : Hp} {v : V} {u : Value}, Inv X [] σ' H' s' → RelV v u → Q v H' → CE outer P w H s Q u s' := fun {σ' H' v u} J rv q => ⟨v, H', J.os, J.bare, J.base, J.hok, rv, q⟩
    cases fl with
    | ret u => obtain ⟨v, σ', H', J, rv, q⟩ := hs; exact fin J rv q
    | next => obtain ⟨σ', H', J, q⟩ := hs; exact fin (v := V.non) (u := Value.none) J rfl q
    | brk => obtain ⟨_, _, _, q⟩ := hs; exact q.elim
    | cont => obtain ⟨_, _, _, q⟩ := hs; exact q.elim
  subst hb
  refine ks_wpAt_execs_cons (ks_wpAt_Expr_any ?_ ?_ ?_)
  rotate_left
  · show (env.scope.kind == .module && _) = false
    rw [hes, S.kind]; rfl
  · rfl
  refine ks_wpAt_MethodCall (pl := (do return (← importBound (.Call (.Name "super" p0) [] [] p1) env).getD true)) ?_ ?_
  rotate_left
  · rw [arm_eval_Call]
    have hpos : methodCallPos true (.Call (.Name "super" p0) [] [] p1) env p2 p4 = pure p4 := by unfold methodCallPos; simp [hline]
    unfold methodCall
    rw [show methodCallForm ([Expr.Constant (.str z) j p3].length + ([] : List Keyword).length) (backTo p4 (starEach [Expr.Constant (.str z) j p3] env)) (backToKw p4 (keywordEach [] env)) = true from rfl, hpos]
    rfl
  have bk : ∀ b o, base.get? b = some o → h₀.get? b = some o := fun b o e => hk b o (e0.bs b o e).1
  have K0 : K.In h₀ := kX.keeps bk
  have ef : env.func = some f := by rw [← he]
  have eco : env.code = .ref cda := by rw [← he]
  have ko : ∀ x, env.kindOf x = scope.names.lookup x := fun x => by show env.scope.names.lookup x = _; rw [hes]
  have ek : env.scope.kind = .function := by rw [hes]; exact S.kind
  obtain ⟨nm, q, N, bs, bm, sn, sub, ab, col, dd, k0, k1, k2, k3, k5, hC, hbm⟩ := T.cls
  refine ks_wpAt_super_base ((ko _).trans S.sup) ((ko _).trans S.dcl) (by decide) ef (K0 _ _ lk) rfl hpar eco (K0 _ _ hcode) rfl hvs hfile htop ?_
  obtain ⟨mb, hb1, hb2⟩ := e0.mod.blt
  refine PySem.W.ks_loadName_global ek ((ko _).trans S.sup) (Calls.loadGlobal_builtin (by show Heap.Ns _ env.globals mg; rw [← he]; exact e0.mod.glob.keeps bk) hmg (by show Heap.Ns _ env.builtins mb; rw [← he]; exact hb1.keeps bk) ((hb2 _ (by decide)).trans (by decide +kernel : bootBuiltins "super" = some (.type "super"))) ⟨rfl, ?_⟩)
  refine wpAny_loadName_free ek ((ko _).trans S.dcl) (by rw [hec]; rfl) ⟨_, K0 _ _ hcell, rfl⟩ ?_
  rw [har]
  obtain ⟨mL, hns2, hlk2⟩ := I.loc
  obtain ⟨u2, hu2, hl2⟩ := hlk2 0 "self" (.ref a) rfl rfl (.inl ((ko _).trans S.slf))
  obtain rfl : u2 = Value.ref a := hu2
  have hmL : mL ("self" : Str) = some (.ref a) := by
    rcases hl2 with ⟨_, z⟩ | ⟨z, _⟩
    · exact z
    · have := (ko ("self" : Str)).trans S.slf
      rcases z with z | z <;> (rw [this] at z; cases z)
  refine wpAny_loadName_local ek ((ko _).trans S.slf) hns2 hmL ?_
  refine ks_wpAny_isType_cls (K0 _ _ hC) rfl ⟨rfl, ?_⟩
  obtain ⟨t1, hoa⟩ := exo_at I.hok ha
  refine ks_wpAny_call_super (K0 _ _ hC) rfl hoa rfl (fun c e => by cases e) (PySem.W.looks_mroIn K0 hmro) fun h1 e1 kp1 => ?_
  have I1 := I.kept (t' := s.toks + 3) kp1
  have K1 : K.In h1 := I1.kIn
  have hoa1 := kp1 _ _ hoa
  have hci : PySem.W.clsIn K C = some { name := nm, bases := bs, mro := .ref C :: bm, ns := N, qualname := q, hasDict := true, slotNames := sn, subclasses := sub, abstract := ab, collection := col, hasDel := false } := by unfold PySem.W.clsIn; rw [hC]
  have iA : PySem.W.InstAt h1 a { cls := .ref C, dict := none, data := .fields #[.ref t1, .none, .none, .none, .bool false, .none] } C none := ⟨hoa1, rfl, rfl, trivial⟩
  unfold PySem.W.ks_superIn at hm
  rw [hci] at hm
  refine PySem.W.kxs_getMethod PySem.W.kxs_ValueError e1 (PySem.W.looks_opaque K1 hso) ((PySem.W.looks_clsIn K1 hci).andThen .now) rfl K1 hm (iA.type.andThen (PySem.W.looks_subIn K1 hB)) (PySem.W.ks_ne K1 iA hci) (by decide) ?_
  obtain ⟨u, hu⟩ : ∃ u, u = h1.objs.size := ⟨_, rfl⟩
  have I2 : Inv X [] [some (.ref a), some y1, some y2] H { s with heap := h1.push (PySem.W.kxs_mw "ValueError.__init__" a), toks := s.toks + 3 + 1 } := I1.kept (t' := s.toks + 3 + 1) fun b o e => Heap.get?_push_of_some _ e
  have I3 : Inv X [(u, PySem.W.kxs_mw "ValueError.__init__" a)] [some (.ref a), some y1, some y2] H { s with heap := h1.push (PySem.W.kxs_mw "ValueError.__init__" a), toks := s.toks + 3 + 1 } := I2.pins_of fun p hp => by
    rw [List.mem_singleton.mp hp]
    subst hu
    exact ⟨Heap.get?_push_at rfl rfl, I1.hok.fresh (Nat.le_refl _), Nat.ne_of_gt I1.lt, I1.nofs (Nat.le_refl _), fun v z => by cases z⟩
  rw [← hu]
  refine PySem.W.kxs_callWith (i := "ValueError.__init__") (x := a) rfl ?_
  refine Calls.evalArgs_plain ?_
  refine thn ((pa_cons pe_str pa_nil : PA X [.Constant (.str z) j p3] _).run p4 _ _ _ H (fun vs H' => H' = H ∧ vs.length = 1) I3 ⟨rfl, rfl⟩) fun us3 s3 ⟨vs3, H3, I4, r3, eH, l3⟩ => ?_
  rw [eH] at I4
  obtain ⟨hu3, _⟩ := I4.pin (u, PySem.W.kxs_mw "ValueError.__init__" a) (List.mem_append.mpr (.inr List.mem_cons_self))
  refine ⟨hu3, ?_⟩
  obtain ⟨t3, ho3⟩ := exo_at I4.hok ha
  have hz : us3.length ≤ sizeLine := by rw [← Paired.length r3, l3, sizeLine_eq]; omega
  have K4 : K.In s3.heap := I4.kIn
  have end_ : ∀ (h' : Heap) (tk : Nat), (∀ b o, b ≠ a → s3.heap.get? b = some o → h'.get? b = some o) → h'.get? a = some ({ cls := .ref C, dict := none, data := .fields #[.ref s3.heap.objs.size, .none, .none, .none, .bool false, .none] } : Obj) → Inv X [] [some (.ref a), some y1, some y2] H { s3 with heap := h', toks := tk } := fun h' tk kk hx => by
    have I5 : Inv X [] [some (.ref a), some y1, some y2] H s3 := I4.pins_of fun p hp => absurd hp ((by simp))
    have J := I5.write (t' := tk) (x := a) (e := a) (o := exo a C none) (by rw [ha]; exact True.intro) (.inl rfl) kk ⟨_, hx⟩ (exo_ok hx)
    have eu : upd H a (exo a C none) = H := by
      funext b
      by_cases hb : b = a
      · subst hb; rw [upd_same]; exact ha.symm
      · exact upd_ne hb
    rw [eu] at J
    exact J
  refine wpAny_call (codeAny_of_tree ?_)
  show wpAny _ (A.deeper env).in1 (callAny (.ref u) ⟨us3, []⟩) _ _ _
  unfold callAny
  refine wpAny_bind (wpAny_load hu3 ?_)
  have m1 : (Value.type "method-wrapper" == Value.type "method" || Value.type "method-wrapper" == Value.type "builtin_function_or_method" || Value.type "method-wrapper" == Value.type "method-wrapper") = true := by decide
  simp only [PySem.W.kxs_mw, m1, if_true]
  refine PySem.W.KFB.if_so (by decide) ?_
  refine wpAny_bind (PySem.W.check_bound_init F.excBase_ValueError.toExcCallFacts (K4 _ _ hC) ho3 rfl ?_)
  refine wpAny_bind (wpAny_pure (wpAny_pure ?_))
  refine ⟨plainId_quiet F.excBase_ValueError.init.plain _, codeAny_builtin F.excBase_ValueError.initEntry ?_⟩
  refine PySem.W.exc_init_tree (cls := .ref C) (t0 := t3) (dv := none) (c2 := .none) (c3 := .none) (b4 := .bool false) ho3 hz fun h' kk hx ht => ?_
  refine PySem.wpAt_of_wpAny (wpAny_mono (hJ (end_ h' s3.toks kk hx)) (fun fl s' z => z) fun e s' z => z.elim)
end
end Mm
/-! MmV: C() for an exception's class, with an own __init__ that stores nothing, or without an own __init__ -/
namespace Mm
open PySem PySem.Spec PyProof.Rows L2
section
variable {P : Program} {w : World} {K : PySem.W.Frag} {mg : Str → Option Value} {base : Heap} {k : Nat} {C : Addr}
theorem mk0_plain {bmB : List Value} {B newId initId : String} (Fa : ExcBaseFacts B newId initId bmB) (q : PySem.W.excIn K C bmB newId = true) (kC : PySem.W.keepIn K (.ref C) = true) (r1 : PySem.W.subIn K (.ref C) (.type "BaseException") = some true) (r2 : PySem.W.typeIn K (.ref C) = some (.type "type")) : Mk0 P w K mg base k C := by
  intro X nm p pos e1 e2 e3 e4 e5 hr hp hg hm hdb
  subst e1 e2 e3 e4 e5
  intro pins s σ H Q I h
  refine wpAny_Call_Name_kw (ld_glob I hg hm ?_ hdb)
  refine PySem.W.callWith_K0 I.kIn kC ?_
  show wpAny _ _ (call (.ref C) []) _ _ _
  obtain ⟨bm, N, nm', qn, bs, hdct, sn, sub, ab, col, dd, k0, k1, k2, k3, k5, mN, hC, hN, hni, T⟩ := exc_obj I.kIn q
  refine wpAny_call_exc_subT Fa T hC hN hni (fun h' e hm => ?_) (Nat.zero_le _)
  exact mk_of I hm (raises_own r1 r2) h (I.hok.gone hm.new)
/-- the exception is let go; it has no dict -/
theorem let_go {X : Cx} {pins : List (Addr × Obj)} {σ : L2.St} {H : Hp} {Q : XK} {hp hp2 h2 : Heap} {g1 g2 : Array GenState} {d1 d2 : Drawn} {t1 t2 : Nat} {os1 os2 : OsState} {a C : Addr} (T : Raises X (.ref C)) (I : Inv X pins σ H ⟨hp, g1, d1, t1, os1⟩)
    (ha : hp.objs.size ≤ a) (kk : ∀ b o, hp.get? b = some o → hp2.get? b = some o) (un : Un (frs X.stack) [] (upd H a (exo a C none)) (upd H a (exo a C none)) hp2 h2) (hok : HOk X.prog X.w (upd H a (exo a C none)) h2) (ho : os2 = os1) (hb : AllBare g2) (q : Q (.ref C) none H) : MkP X pins σ Q (.ref a) ⟨h2, g2, d2, t2, os2⟩ := by
  obtain ⟨t0, hoe⟩ := exo_at hok upd_same
  have hn : H a = none := I.hok.fresh ha
  obtain ⟨G, in_, out_⟩ := restrict h2 fun b => decide (b ≠ a)
  have gk : ∀ b, b ≠ a → G.get? b = h2.get? b := fun b hb => in_ b (decide_eq_true hb)
  have ga : G.get? a = none := out_ a (by simp)
  have ne : ∀ {b : Addr} {o : Obj}, hp.get? b = some o → b ≠ a := fun {b o} z => Nat.ne_of_lt (Nat.lt_of_lt_of_le (Heap.lt_size z) ha)
  have hne : ∀ {b : Addr} {o : HO}, H b = some o → b ≠ a := fun {b o} z e => by rw [e, hn] at z; cases z
  have up : ∀ {b : Addr}, b ≠ a → upd H a (exo a C none) b = H b := fun hb => upd_ne hb
  have U : Un (frs X.stack) [] H H hp G := {
    keep := fun b o z n hf hx => (gk b (ne z)).trans (un.keep b o (kk b o z) ((up (ne z)).trans n) hf hx)
    slot := fun b o z n hf hx => by
      obtain ⟨sl, e⟩ := un.slot b o (kk b o z) ((up (ne z)).trans n) hf hx
      exact ⟨sl, (gk b (ne z)).trans e⟩
    free := fun b o z n hx => n
    there := fun b o z hx => by
      obtain ⟨o', e⟩ := un.there b o (kk b o z) hx
      exact ⟨o', (gk b (ne z)).trans e⟩
    tups := fun b xs z => z
    frzs := fun b o v z => z
    tbls := fun b ps z => ⟨#[], by simpa using z⟩ }
  have hokG : HOk X.prog X.w H G := fun b o z => by
    have hba := hne z
    exact (hok b o ((up hba).trans z)).stay (fun c v hc y => by
        have hca : c ≠ a := by
          rcases hc with hc | hc
          · rw [hc]; exact hba
          · intro e
            rw [e, upd_same] at hc
            exact exo_own (Option.some.inj hc)
        exact (gk c hca).trans y)
      (fun c hc => by
        have hca : c ≠ a := fun e => by rw [e, upd_same] at hc; exact exo_own (Option.some.inj hc)
        exact (up hca).symm.trans hc)
      (fun c xs hc => by
        have hca : c ≠ a := fun e => by rw [e, upd_same] at hc; exact exo_tup (Option.some.inj hc)
        exact (up hca).symm.trans hc)
  have J : Inv X pins σ H ⟨G, g2, d2, t2, os2⟩ := I.call' (ch := []) ho U hokG hb (fun b z => absurd z List.not_mem_nil)
  refine ⟨a, _, _, ⟨G, g2, d2, t2, os2⟩, H, .ref C, none, rfl, J, fun b o z => ?_, ga, hoe, ⟨rfl, rfl⟩, rfl, rfl, hn, rfl, hb, T, q⟩
  have hba : b ≠ a := fun e => by rw [e, ga] at z; cases z
  exact (gk b hba).symm.trans z
theorem mk0_own {fI : Addr} {fd : FuncData} {ps : List Str} (T : OexC K C) (iC : PySem.W.findIn K (.ref C) "__init__" = some (some (.ref fI))) (tI : PySem.W.typeIn K (.ref fI) = some (.type "function")) (Fo : FnOk P w K mg base (L2.CX P w) k fI fd ps (spXI0 C)) (hb : Binds K fd ps []) : Mk0 P w K mg base k C := by
  intro X nm p pos e1 e2 e3 e4 e5 hr hp hg hm hdb
  subst e1 e2 e3 e4 e5
  intro pins s σ H Q I h
  obtain ⟨nm', q, N, bs, bm, sn, sub, ab, col, dd, k0, k1, k2, k3, k5, hC, hbm⟩ := T.cls
  refine wpAny_Call_Name_kw (ld_glob I hg hm ?_ hdb)
  refine PySem.W.callWith_K0 I.kIn T.kC ?_
  show wpAny _ _ (call (.ref C) []) _ _ _
  obtain ⟨hp', g, dr, tk, os⟩ := s
  have le1 : hp'.objs.size ≤ hp'.objs.size + 1 := Nat.le_succ _
  have kk : ∀ b o, hp'.get? b = some o → ((hp'.push (PySem.W.kdv_tup [])).push (PySem.HandSPX.excO C hp'.objs.size)).get? b = some o := fun b o e => Heap.get?_push_of_some _ (Heap.get?_push_of_some _ e)
  have hget : ((hp'.push (PySem.W.kdv_tup [])).push (PySem.HandSPX.excO C hp'.objs.size)).get? (hp'.objs.size + 1) = some (PySem.HandSPX.excO C hp'.objs.size) := by heap_get
  have J : Inv X pins σ (upd H (hp'.objs.size + 1) (exo (hp'.objs.size + 1) C none)) ⟨(hp'.push (PySem.W.kdv_tup [])).push (PySem.HandSPX.excO C hp'.objs.size), g, dr, tk, os⟩ :=
    I.laid (t' := tk) (a := hp'.objs.size + 1) (o := exo (hp'.objs.size + 1) C none) (h' := (hp'.push (PySem.W.kdv_tup [])).push (PySem.HandSPX.excO C hp'.objs.size)) kk le1 (exo_ok hget)
  have hq : spXI0 C [.ref (hp'.objs.size + 1)] (upd H (hp'.objs.size + 1) (exo (hp'.objs.size + 1) C none)) (fun v G => v = .non ∧ G = upd H (hp'.objs.size + 1) (exo (hp'.objs.size + 1) C none)) (fun _ _ _ => False) := ⟨_, rfl, upd_same, rfl, rfl⟩
  have hl : ([Value.ref (hp'.objs.size + 1)] ++ []).length = ps.length := Fo.len _ _ _ _ hq
  have bd := hb ⟨(hp'.push (PySem.W.kdv_tup [])).push (PySem.HandSPX.excO C hp'.objs.size), g, dr, tk, os⟩ [Value.ref (hp'.objs.size + 1)] J.kIn hl
  refine wpAny_call (PySem.HandSPX.call_own F.excBase_ValueError (fun Y => PySem.HandSPX.refsVE_contains Y bm hbm) (I.kIn _ _ hC) (PySem.W.looks_findIn I.kIn iC) (fun self => PySem.W.bind_fn I.kIn self tI) (Nat.zero_le _)
    (codeAny_mono (Fo.run _ X.stack _ _ ⟨[Value.ref (hp'.objs.size + 1)], []⟩ [Value.ref (hp'.objs.size + 1)] [.ref (hp'.objs.size + 1)] _ (fun _ _ _ => False) (hr.make C [] []) (J.env0.make C [] []) bd (.cons rfl .nil) hq) fun r y hy => ?_))
  match r, hy with
  | .error er, hy => exact hp pins σ _ _ er y J hy
  | .ok (.ret u), ⟨v, G, os2, bare2, un2, hok2, rv, ev, eG⟩ =>
    subst ev eG
    obtain ⟨h2, g2, d2, t2, os'⟩ := y
    exact ⟨rv, let_go (raises_own T.exC T.tyC) I le1 kk un2 hok2 os2 bare2 h⟩
end
end Mm
/-! MmP: what mutable things look like, and freezing them deep -/
namespace Mm
open PySem PySem.Spec PyProof.Rows L2
/-- the items look like the data xs' -/
def Sns (S : Sto) (xs xs' : List U) : Prop := ∀ (K : PySem.W.Frag) (cls : Anc) (F : Addr → Prop) (H : Hp) (vs : List V), SR K cls F H S → VRels K F H vs xs → DpAll K H vs (pys xs')
section
variable {S : Sto} {x y x' y' : U} {xs xs' ys : List U} {p : Addr} {k : Bool → Prop}
theorem Sns.data (h : datas xs = true) : Sns S xs xs := fun K cls F H v _ r => r.dp h
theorem Sns.nil : Sns S [] [] := Sns.data rfl
theorem Sns.cons (h : Sn S x x') (r : Sns S xs xs') : Sns S (x :: xs) (x' :: xs') := fun K cls F H vs sr rv => by
  cases rv with
  | cons a b => exact .cons (h K cls F H _ sr a) (r K cls F H _ sr b)
theorem Sn.lst (r : Sns S xs xs') : Sn S (.lst xs) (.lst xs') := fun K cls F H v sr rv => by
  cases rv with
  | lst h1 h2 h3 => exact .lst (SqL.of h2) (r K cls F H _ sr h3)
theorem Sn.ref (h : S p = some (.lst xs)) (r : Sns S xs xs') : Sn S (.ref p) (.lst xs') := fun K cls F H v sr rv => by
  cases rv
  obtain ⟨vs, h1, h2⟩ := sr.sto p _ h
  exact .lst (SqL.of h1) (r K cls F H _ sr h2)
def U.big : U → Bool
  | .tup _ | .lst _ | .ls _ | .ref _ => true
  | _ => false
theorem eq_sn (hb : x.big = true) (h1 : Sn S x x') (h2 : Sn S y y') (e1 : eqable x') (e2 : eqable y') (h : k (ueq x' y')) : eqW x y S k := by
  cases x <;> first | (cases hb; done) | exact ⟨x', y', h1, h2, e1, e2, h⟩
theorem eq_dat (hb : x.big = true) (e1 : eqable x) (e2 : eqable y) (h : k (ueq x y)) : eqW x y S k := eq_sn hb (Sn.data e1.1) (Sn.data e2.1) e1 e2 h
theorem eq_ref (hs : S p = some (.lst xs)) (e1 : eqable (.lst xs)) (e2 : eqable y) (h : k (ueq (.lst xs) y)) : eqW (.ref p) y S k := by
  have := e1.1
  simp only [U.data] at this
  exact eq_sn rfl (Sn.ref hs (Sns.data this)) (Sn.data e2.1) e1 e2 h
end
/-! ### deep freezing -/
def delS (S : Sto) (D : List Addr) : Sto := fun b => if b ∈ D then none else S b
mutual
/-- x, read deep, is y; D the mutable lists on the way -/
inductive Dfz (S : Sto) : U → U → List Addr → Prop
  | dat (x : U) : Dfz S x x []
  | inl {xs ys : List U} {D : List Addr} : Dfzs S xs ys D → Dfz S (.lst xs) (.lst ys) D
  | lst {p : Addr} {xs ys : List U} {D : List Addr} : S p = some (.lst xs) → Dfzs S xs ys D → Dfz S (.ref p) (.lst ys) (p :: D)
inductive Dfzs (S : Sto) : List U → List U → List Addr → Prop
  | nil : Dfzs S [] [] []
  | cons {x y : U} {xs ys : List U} {D D' : List Addr} : Dfz S x y D → Dfzs S xs ys D' → Dfzs S (x :: xs) (y :: ys) (D ++ D')
end
section
variable {K : PySem.W.Frag} {cls : Anc} {F F' : Addr → Prop} {H H' : Hp} {S : Sto}
mutual
theorem Dfz.mem : ∀ {x y : U} {D : List Addr}, Dfz S x y D → ∀ b ∈ D, ∃ xs, S b = some (.lst xs)
  | _, _, _, .dat _ => by simp
  | _, _, _, .inl r => Dfzs.mem r
  | _, _, _, .lst h r => fun b hb => by
    rcases List.mem_cons.mp hb with rfl | hb
    · exact ⟨_, h⟩
    · exact Dfzs.mem r b hb
theorem Dfzs.mem : ∀ {xs ys : List U} {D : List Addr}, Dfzs S xs ys D → ∀ b ∈ D, ∃ xs, S b = some (.lst xs)
  | _, _, _, .nil => by simp
  | _, _, _, .cons h r => fun b hb => by
    rcases List.mem_append.mp hb with hb | hb
    · exact Dfz.mem h b hb
    · exact Dfzs.mem r b hb
end
mutual
theorem Dfz.rel (sr : SR K cls F H S) (fe : FExt F H F' H') (same : ∀ b xs, S b = some (.lst xs) → H' b = H b) : ∀ {x y : U} {D : List Addr}, Dfz S x y D → (∀ b ∈ D, F' b) → ∀ {v : V}, VRel K F H v x → VRel K F' H' v y
  | _, _, _, .dat _, _, _, r => r.ext fe
  | _, _, _, .inl d, hD, _, r => by
    cases r with
    | lst h1 h2 h3 => exact .lst (fe.sub _ h1) ((fe.same _ h1).trans h2) (Dfzs.rel sr fe same d hD h3)
  | _, _, _, .lst h d, hD, _, r => by
    cases r
    obtain ⟨vs, h1, h2⟩ := sr.sto _ _ h
    exact .lst (hD _ List.mem_cons_self) ((same _ _ h).trans h1) (Dfzs.rel sr fe same d (fun b hb => hD b (List.mem_cons_of_mem _ hb)) h2)
theorem Dfzs.rel (sr : SR K cls F H S) (fe : FExt F H F' H') (same : ∀ b xs, S b = some (.lst xs) → H' b = H b) : ∀ {xs ys : List U} {D : List Addr}, Dfzs S xs ys D → (∀ b ∈ D, F' b) → ∀ {vs : List V}, VRels K F H vs xs → VRels K F' H' vs ys
  | _, _, _, .nil, _, _, .nil => .nil
  | _, _, _, .cons h r, hD, _, .cons a b => .cons (Dfz.rel sr fe same h (fun b hb => hD b (List.mem_append_left _ hb)) a) (Dfzs.rel sr fe same r (fun b hb => hD b (List.mem_append_right _ hb)) b)
end
/-- the things of D leave the store -/
theorem SR.drop (sr : SR K cls F H S) {D : List Addr} (hD : ∀ b ∈ D, ∃ o, S b = some o) (same : ∀ b, b ∉ D → H' b = H b) (there : ∀ b ∈ D, ∃ o, H' b = some o) :
    SR K cls (fun b => F b ∨ b ∈ D) H' (delS S D) ∧ Ext F H S (fun b => F b ∨ b ∈ D) H' (delS S D) ∧ FExt F H (fun b => F b ∨ b ∈ D) H' := by
  have nD : ∀ b, F b → b ∉ D := fun b h z => by
    obtain ⟨o, e⟩ := hD b z
    rw [sr.sep b h] at e; cases e
  have fe : FExt F H (fun b => F b ∨ b ∈ D) H' := ⟨fun _ h => .inl h, fun b h => same b (nD b h)⟩
  have ex : Ext F H S (fun b => F b ∨ b ∈ D) H' (delS S D) := ⟨fun _ h => .inl h, fun b o h h' => by
    have n : b ∉ D := fun z => by
      obtain ⟨o, e⟩ := hD b z
      rw [h'] at e; cases e
    exact ⟨(same b n).trans h, by unfold delS; rw [if_neg n]; exact h', fun z => z.resolve_right n⟩⟩
  refine ⟨⟨fun b h => ?_, fun b h => ?_, fun b o h => ?_, sr.anc.trans ex⟩, ex, fe⟩
  · unfold delS
    rcases h with h | h
    · rw [if_neg (nD b h)]; exact sr.sep b h
    · rw [if_pos h]
  · rcases h with h | h
    · obtain ⟨o, e⟩ := sr.frz b h
      exact ⟨o, (same b (nD b h)).trans e⟩
    · exact there b h
  · unfold delS at h
    split at h
    · cases h
    · next n => exact (sr.sto b o h).ext fe (same b n)
end
section
variable {S : Sto} {x y : U} {xs ys : List U} {D : List Addr} {p : Addr} {kvs : List (L2.Key × U)}
theorem gst_id : Gst x S x S := fun K cls F H v sr r => .inl ⟨F, sr, .refl, r⟩
theorem gst_deep (d : Dfz S x y D) : Gst x S y (delS S D) := fun K cls F H v sr r => by
  obtain ⟨s1, e1, f1⟩ := sr.drop (H' := H) (D := D) (fun b hb => (d.mem b hb).imp' _ fun _ e => e) (fun _ _ => rfl) fun b hb => by
    obtain ⟨xs, e⟩ := d.mem b hb
    exact (sr.sto b _ e).there
  exact .inl ⟨_, s1, e1, d.rel sr f1 (fun _ _ _ => rfl) (fun b hb => .inr hb) r⟩
theorem KRel.split {K : PySem.W.Frag} {F : Addr → Prop} {H : Hp} : ∀ {vs : List (L2.Key × V)} {us : List (L2.Key × U)}, KRel K F H vs us → vs = (us.map (·.1)).zip (vs.map (·.2)) ∧ VRels K F H (vs.map (·.2)) (us.map (·.2))
  | _, _, .nil => ⟨rfl, .nil⟩
  | _, _, .cons h r => by
    obtain ⟨h1, h2⟩ := KRel.split r
    refine ⟨?_, .cons h h2⟩
    rw [List.map_cons, List.map_cons, List.zip_cons_cons, ← h1]
theorem gst_dct (h : S p = some (.dct kvs)) (d : Dfzs S (kvs.map (·.2)) ys D) : Gst (.ref p) S (.dct (kvs.map (·.1)) ys) (delS S (p :: D)) := fun K cls F H v sr r => by
  cases r
  obtain ⟨vs, h1, h2⟩ := sr.sto p _ h
  obtain ⟨e, rv⟩ := KRel.split h2
  refine .inr ⟨p, .dK vs, h1, trivial, fun od => ?_⟩
  have np : p ∉ D := fun z => by
    obtain ⟨xs, e⟩ := d.mem p z
    rw [h] at e; cases e
  obtain ⟨s1, e1, f1⟩ := sr.drop (H' := upd H p (.frz od (.dK vs))) (D := p :: D) (fun b hb => by
      rcases List.mem_cons.mp hb with rfl | hb
      · exact ⟨_, h⟩
      · obtain ⟨xs, e⟩ := d.mem b hb; exact ⟨_, e⟩) (fun b hb => upd_ne fun z => hb (by rw [z]; exact List.mem_cons_self)) fun b hb => by
      by_cases hp : b = p
      · subst hp; exact ⟨_, upd_same⟩
      · rw [upd_ne hp]
        rcases List.mem_cons.mp hb with rfl | hb
        · exact absurd rfl hp
        · obtain ⟨xs, e⟩ := d.mem b hb
          exact (sr.sto b _ e).there
  refine ⟨_, s1, e1, .dct (.inr List.mem_cons_self) ⟨od, ?_⟩ ?_ (d.rel sr f1 (fun b xs hb => upd_ne fun z => by rw [z, h] at hb; cases hb) (fun b hb => .inr (List.mem_cons_of_mem _ hb)) rv)⟩
  · rw [upd_same, ← e]
  · have := h2.length
    simp [this]
end
/-! ### sets in order and two walks, closed against simp -/
def scG (G : GV) (own : List Nat) (g : Tg) (gd : Sto → Prop) (c : T) (e : E) (K : List Int → Sto → Prop) (ρ : Env) (xs : List U) (acc : List Int) (S : Sto) : Prop :=
  scW own g gd (fun ρ S k => wT G noX c ρ S k) (fun ρ S R => wE G noX e ρ S R) K ρ xs acc S
theorem e_ssc {G : GV} {RX : RXn} {m : Bool} {own : List (Str × Nat)} {g : Tg} {it : Mm.It} {c : T} {e : E} {ρ : Env} {S : Sto} {R : Post} :
    wE G RX (.srtsc m own g it c e) ρ S R = wI G RX it ρ S fun xs gd S1 => scG G (own.map fun p => p.2) g gd c e (srtW m R) ρ xs [] S1 := rfl
theorem sc_by {G : GV} (mG : GMono G) {own : List Nat} {g : Tg} {gd : Sto → Prop} {c : T} {e : E} {K : List Int → Sto → Prop} {ρ : Env} {xs : List U} {S : Sto} (I : Nat → List Int → Sto → Prop) (h0 : I 0 [] S)
    (hs : ∀ i x acc S, xs[i]? = some x → I i acc S → gd S ∧ tgW g x (wipeU ρ own) fun ρ2 => wT G noX c ρ2 S fun b S1 => if b then wE G noX e ρ2 S1 fun y S2 => ∃ n, y = .int n ∧ acc.length < 1000 ∧ I (i + 1) (acc ++ [n]) S2 else I (i + 1) acc S1)
    (hd : ∀ acc S, I xs.length acc S → gd S ∧ K acc S) : scG G own g gd c e K ρ xs [] S := by
  have key : ∀ (n i : Nat) (acc : List Int) (S : Sto), n = xs.length - i → i ≤ xs.length → I i acc S → scG G own g gd c e K ρ (xs.drop i) acc S := by
    intro n
    induction n with
    | zero =>
      intro i acc S hn hi h
      have e : i = xs.length := by omega
      subst e
      rw [List.drop_length]
      exact hd acc S h
    | succ n ih =>
      intro i acc S hn hi h
      have hlt : i < xs.length := by omega
      have hx : xs[i]? = some xs[i] := List.getElem?_eq_getElem hlt
      rw [len_drop hx]
      obtain ⟨h1, h2⟩ := hs i _ acc S hx h
      refine ⟨h1, tgW_mono (fun ρ' w => wT_mono mG c (fun _ _ _ z => z) (fun b S1 w => ?_) w) h2⟩
      cases b with
      | true => rw [if_pos rfl] at *; exact wE_mono mG e (fun _ _ _ z => z) (fun y S2 w => by
          obtain ⟨k, h1, h2, h3⟩ := w
          exact ⟨k, h1, h2, ih (i + 1) _ S2 (by omega) hlt h3⟩) w
      | false => rw [if_neg Bool.false_ne_true] at *; exact ih (i + 1) acc S1 (by omega) hlt w
  exact key _ 0 [] S rfl (Nat.zero_le _) h0
def liG (G : GV) (vs : List Nat) (g : Tg) (gd : Sto → Prop) (c : T) (e : E) (K : List U → Sto → Prop) (ρ : Env) (xs acc : List U) (S : Sto) : Prop :=
  liW vs g gd (fun ρ S k => wT G noX c ρ S k) (fun ρ S R => wE G noX e ρ S R) K ρ xs acc S
def loG (G : GV) (m : Bool) (own vs : List Nat) (g : Tg) (gd : Sto → Prop) (c : T) (it1 : Mm.It) (g1 : Tg) (c1 : T) (e : E) (R : Post) (ρ : Env) (xs acc : List U) (S : Sto) : Prop :=
  loW m own vs g gd (fun ρ S k => wT G noX c ρ S k) (fun ρ S k => wI G noX it1 ρ S k) g1 (fun ρ S k => wT G noX c1 ρ S k) (fun ρ S R => wE G noX e ρ S R) R ρ xs acc S
theorem e_lc2 {G : GV} {RX : RXn} {m : Bool} {own : List (Str × Nat)} {vs : List Nat} {g g1 : Tg} {it it1 : Mm.It} {c c1 : T} {e : E} {ρ : Env} {S : Sto} {R : Post} :
    wE G RX (.lc2 m own vs g it c g1 it1 c1 e) ρ S R = wI G RX it ρ S fun xs gd S1 => loG G m (own.map fun p => p.2) vs g gd c it1 g1 c1 e R ρ xs [] S1 := rfl
theorem li_by {G : GV} (mG : GMono G) {vs : List Nat} {g : Tg} {gd : Sto → Prop} {c : T} {e : E} {K : List U → Sto → Prop} {ρ : Env} {xs acc0 : List U} {S : Sto} (I : Nat → List U → Sto → Prop) (h0 : I 0 acc0 S)
    (hs : ∀ i x acc S, xs[i]? = some x → I i acc S → gd S ∧ tgW g x (wipeU ρ vs) fun ρ2 => wT G noX c ρ2 S fun b S1 => if b then wE G noX e ρ2 S1 fun y S2 => acc.length < sizeLine ∧ I (i + 1) (acc ++ [y]) S2 else I (i + 1) acc S1)
    (hd : ∀ acc S, I xs.length acc S → gd S ∧ K acc S) : liG G vs g gd c e K ρ xs acc0 S := by
  have key : ∀ (n i : Nat) (acc : List U) (S : Sto), n = xs.length - i → i ≤ xs.length → I i acc S → liG G vs g gd c e K ρ (xs.drop i) acc S := by
    intro n
    induction n with
    | zero =>
      intro i acc S hn hi h
      have e : i = xs.length := by omega
      subst e
      rw [List.drop_length]
      exact hd acc S h
    | succ n ih =>
      intro i acc S hn hi h
      have hlt : i < xs.length := by omega
      have hx : xs[i]? = some xs[i] := List.getElem?_eq_getElem hlt
      rw [len_drop hx]
      obtain ⟨h1, h2⟩ := hs i _ acc S hx h
      refine ⟨h1, tgW_mono (fun ρ' w => wT_mono mG c (fun _ _ _ z => z) (fun b S1 w => ?_) w) h2⟩
      cases b with
      | true => rw [if_pos rfl] at *; exact wE_mono mG e (fun _ _ _ z => z) (fun y S2 w => ⟨w.1, ih (i + 1) _ S2 (by omega) hlt w.2⟩) w
      | false => rw [if_neg Bool.false_ne_true] at *; exact ih (i + 1) acc S1 (by omega) hlt w
  exact key _ 0 _ S rfl (Nat.zero_le _) h0
theorem lo_by {G : GV} (mG : GMono G) {m : Bool} {own vs : List Nat} {g g1 : Tg} {gd : Sto → Prop} {c c1 : T} {it1 : Mm.It} {e : E} {R : Post} {ρ : Env} {xs : List U} {S : Sto} (I : Nat → List U → Sto → Prop) (h0 : I 0 [] S)
    (hs : ∀ i x acc S, xs[i]? = some x → I i acc S → gd S ∧ tgW g x (wipeU ρ own) fun ρ2 => wT G noX c ρ2 S fun b S1 => if b then wI G noX it1 ρ2 S1 fun ys gd1 S2 => liG G vs g1 gd1 c1 e (I (i + 1)) ρ2 ys acc S2 else I (i + 1) acc S1)
    (hd : ∀ acc S, I xs.length acc S → gd S ∧ alloc m acc S R) : loG G m own vs g gd c it1 g1 c1 e R ρ xs [] S := by
  have key : ∀ (n i : Nat) (acc : List U) (S : Sto), n = xs.length - i → i ≤ xs.length → I i acc S → loG G m own vs g gd c it1 g1 c1 e R ρ (xs.drop i) acc S := by
    intro n
    induction n with
    | zero =>
      intro i acc S hn hi h
      have e : i = xs.length := by omega
      subst e
      rw [List.drop_length]
      exact hd acc S h
    | succ n ih =>
      intro i acc S hn hi h
      have hlt : i < xs.length := by omega
      have hx : xs[i]? = some xs[i] := List.getElem?_eq_getElem hlt
      rw [len_drop hx]
      obtain ⟨h1, h2⟩ := hs i _ acc S hx h
      refine ⟨h1, tgW_mono (fun ρ' w => wT_mono mG c (fun _ _ _ z => z) (fun b S1 w => ?_) w) h2⟩
      cases b with
      | true =>
        rw [if_pos rfl] at *
        refine wI_mono mG it1 (fun _ _ _ z => z) (fun ys gd1 S2 w => ?_) w
        exact liW_mono (c := fun ρ S k => wT G noX c1 ρ S k) (e := fun ρ S R => wE G noX e ρ S R) (fun _ _ _ _ h w => wT_mono mG c1 (fun _ _ _ z => z) h w) (fun _ _ _ _ h w => wE_mono mG e (fun _ _ _ z => z) h w) (fun acc' S' h => ih (i + 1) acc' S' (by omega) hlt h) ys acc w
      | false => rw [if_neg Bool.false_ne_true] at *; exact ih (i + 1) acc S1 (by omega) hlt w
  exact key _ 0 [] S rfl (Nat.zero_le _) h0
/-! ### what stays -/
/-- what stands in S stands in S', but for X -/
def Kp (X : List Addr) (S S' : Sto) : Prop := ∀ a o, S a = some o → a ∉ X → S' a = some o
theorem Kp.refl {X : List Addr} {S : Sto} : Kp X S S := fun _ _ h _ => h
theorem Kp.trans {X : List Addr} {S S' S'' : Sto} (h : Kp X S S') (k : Kp X S' S'') : Kp X S S'' := fun a o e n => k a o (h a o e n) n
theorem Kp.put {X : List Addr} {S S' : Sto} {p : Addr} {o : Ob} (h : Kp X S S') (n : S p = none ∨ p ∈ X) : Kp X S (S'.put p o) := fun a x e m => by
  have : a ≠ p := fun z => by
    subst z
    rcases n with n | n
    · rw [n] at e; cases e
    · exact m n
  rw [Sto.put_ne this]; exact h a x e m
theorem Kp.del {X : List Addr} {S S' : Sto} {p : Addr} (h : Kp X S S') (n : S p = none ∨ p ∈ X) : Kp X S (S'.del p) := fun a x e m => by
  have : a ≠ p := fun z => by
    subst z
    rcases n with n | n
    · rw [n] at e; cases e
    · exact m n
  rw [Sto.del_ne this]; exact h a x e m
theorem Kp.delS {X : List Addr} {S S' : Sto} {D : List Addr} (h : Kp X S S') (n : ∀ p ∈ D, S p = none ∨ p ∈ X) : Kp X S (Mm.delS S' D) := fun a x e m => by
  have : a ∉ D := fun z => by
    rcases n a z with n | n
    · rw [n] at e; cases e
    · exact m n
  unfold Mm.delS; rw [if_neg this]; exact h a x e m
theorem Kp.fresh {X : List Addr} {S S' : Sto} {p : Addr} (h : Kp X S S') (m : p ∉ X) (n : S' p = none) : S p = none := by
  cases e : S p with
  | none => rfl
  | some o => rw [h p o e m] at n; cases n
theorem Kp.ne {X : List Addr} {S S' : Sto} {p q : Addr} {o : Ob} (h : S q = some o) (n : S p = none) : p ≠ q := fun z => by rw [z, h] at n; cases n
end Mm
section
open PySem PySem.Spec PyProof.Rows L2 Mm
local macro_rules | `(tactic| dsimp! [$ts,*]) => `(tactic| simp only [↓e_lc, wC, wE, wEs, wT, wTAnds, wTOrs, wO, wJ, wAnds, wOrs, wI, List.getElem?_cons_zero, List.getElem?_cons_succ, List.set_cons_zero, List.set_cons_succ, Option.some.injEq, exists_eq_left', Sto.put_same, Sto.put_put, lstAt, insAt, n_al0, n_addm, n_adds, n_addl, n_addt, n_slct, n_isb, n_notb, n_extt, n_sub, n_mul, n_fdiv, n_mod, n_pow, n_muls, n_mull, n_eqi, n_eqs, n_nei, n_nes, n_lt, n_lts, n_le, n_les, n_gt, n_ge, n_int, n_max, n_min, n_lenl, n_lent, n_lenls, n_lens, n_lenr, n_listl, n_listt, n_tuplel, n_ixl, n_ixls, n_ixt, n_ixs, n_ixr, n_slcl, n_slcls, n_slcs, n_slcr, n_joinT, lenR, n_lend, setI, n_absi, n_shl, n_shr, n_band, n_insT, n_remT, n_ins, ↓e_lc2, ↓e_ssc, n_appT, n_popT, n_extT, n_app, n_pop, n_extl, n_set, n_frz, n_fld, n_setF, n_trur, n_trul, n_trut, n_trub, n_trui, n_ix0, n_ix1, n_ix2, n_ix3, n_ix4, true_and, and_true, at_0, at_1, at_2, at_3, at_4, at_5, decide_eq_true_eq, if_true, if_false, Bool.false_eq_true, List.length_cons, List.length_nil, List.length_append, Nat.zero_add, tgW, exists_const, Bool.not_true, Bool.not_false, Bool.not_eq_true', decide_eq_false_iff_not, line_ok, cut_1, List.cons_append, List.nil_append, Nat.zero_le, Bool.true_eq_false, List.isEmpty_cons, List.isEmpty_nil, List.map_cons, List.map_nil, eq_self, Nat.reduceLeDiff, Nat.reduceAdd, $ts,*])
local macro_rules | `(tactic| simp_all! [$ts,*]) => `(tactic| simp (decide := true) only [↓e_lc, wC, wE, wEs, wT, wTAnds, wTOrs, wO, wJ, wAnds, wOrs, wI, List.getElem?_cons_zero, List.getElem?_cons_succ, List.set_cons_zero, List.set_cons_succ, Option.some.injEq, exists_eq_left', Sto.put_same, Sto.put_put, lstAt, insAt, n_al0, n_addm, n_adds, n_addl, n_addt, n_slct, n_isb, n_notb, n_extt, n_sub, n_mul, n_fdiv, n_mod, n_pow, n_muls, n_mull, n_eqi, n_eqs, n_nei, n_nes, n_lt, n_lts, n_le, n_les, n_gt, n_ge, n_int, n_max, n_min, n_lenl, n_lent, n_lenls, n_lens, n_lenr, n_listl, n_listt, n_tuplel, n_ixl, n_ixls, n_ixt, n_ixs, n_ixr, n_slcl, n_slcls, n_slcs, n_slcr, n_joinT, lenR, n_lend, setI, n_absi, n_shl, n_shr, n_band, n_insT, n_remT, n_ins, ↓e_lc2, ↓e_ssc, n_appT, n_popT, n_extT, n_app, n_pop, n_extl, n_set, n_frz, n_fld, n_setF, n_trur, n_trul, n_trut, n_trub, n_trui, n_ix0, n_ix1, n_ix2, n_ix3, n_ix4, true_and, and_true, at_0, at_1, at_2, at_3, at_4, at_5, decide_eq_true_eq, if_true, if_false, Bool.false_eq_true, List.length_cons, List.length_nil, List.length_append, Nat.zero_add, tgW, exists_const, Bool.not_true, Bool.not_false, Bool.not_eq_true', decide_eq_false_iff_not, line_ok, cut_1, List.cons_append, List.nil_append, Nat.zero_le, Bool.true_eq_false, List.isEmpty_cons, List.isEmpty_nil, List.map_cons, List.map_nil, eq_self, Nat.reduceLeDiff, Nat.reduceAdd, $ts,*])
local macro_rules | `(tactic| dsimp!) => `(tactic| simp only [↓e_lc, wC, wE, wEs, wT, wTAnds, wTOrs, wO, wJ, wAnds, wOrs, wI, List.getElem?_cons_zero, List.getElem?_cons_succ, List.set_cons_zero, List.set_cons_succ, Option.some.injEq, exists_eq_left', Sto.put_same, Sto.put_put, lstAt, insAt, n_al0, n_addm, n_adds, n_addl, n_addt, n_slct, n_isb, n_notb, n_extt, n_sub, n_mul, n_fdiv, n_mod, n_pow, n_muls, n_mull, n_eqi, n_eqs, n_nei, n_nes, n_lt, n_lts, n_le, n_les, n_gt, n_ge, n_int, n_max, n_min, n_lenl, n_lent, n_lenls, n_lens, n_lenr, n_listl, n_listt, n_tuplel, n_ixl, n_ixls, n_ixt, n_ixs, n_ixr, n_slcl, n_slcls, n_slcs, n_slcr, n_joinT, lenR, n_lend, setI, n_absi, n_shl, n_shr, n_band, n_insT, n_remT, n_ins, ↓e_lc2, ↓e_ssc, n_appT, n_popT, n_extT, n_app, n_pop, n_extl, n_set, n_frz, n_fld, n_setF, n_trur, n_trul, n_trut, n_trub, n_trui, n_ix0, n_ix1, n_ix2, n_ix3, n_ix4, true_and, and_true, at_0, at_1, at_2, at_3, at_4, at_5, decide_eq_true_eq, if_true, if_false, Bool.false_eq_true, List.length_cons, List.length_nil, List.length_append, Nat.zero_add, tgW, exists_const, Bool.not_true, Bool.not_false, Bool.not_eq_true', decide_eq_false_iff_not, line_ok, cut_1, List.cons_append, List.nil_append, Nat.zero_le, Bool.true_eq_false, List.isEmpty_cons, List.isEmpty_nil, List.map_cons, List.map_nil, eq_self, Nat.reduceLeDiff, Nat.reduceAdd])
namespace K22
open PySem PySem.Spec PyProof.Rows L2 Mm
def top (i : Nat) : Stmt := PySem.Challenge.pw_maymust_k22_stages_of_a_model.main.body.getD i (.Pass ⟨0, 0, 0, 0⟩)
-- texts
abbrev z_a : List Nat := [97]
abbrev z_z : List Nat := [122]
abbrev z_abcdefghijklmnopqrstuvwxyz : List Nat := [97, 98, 99, 100, 101, 102, 103, 104, 105, 106, 107, 108, 109, 110, 111, 112, 113, 114, 115, 116, 117, 118, 119, 120, 121, 122]
abbrev z_empty' : List Nat := []
abbrev z_no : List Nat := [110, 111]
abbrev z_not : List Nat := [110, 111, 116]
abbrev z_and : List Nat := [97, 110, 100]
abbrev z_or : List Nat := [111, 114]
abbrev z_if : List Nat := [105, 102]
abbrev z_then : List Nat := [116, 104, 101, 110]
abbrev z_must : List Nat := [109, 117, 115, 116]
abbrev z_may : List Nat := [109, 97, 121]
abbrev z_nowherefound : List Nat := [110, 111, 119, 104, 101, 114, 101, 102, 111, 117, 110, 100]
-- names
def gn : GN := { fns := ["is_name", "_rows_of_pairs", "_row_of_worlds", "mark_rows", "sight_rows", "_numbered", "next_numbers", "stages", "_law_box", "_law_take", "_law_word", "_law_words", "_law_given", "_law_rows", "_law_made", "_law_chain", "_law_broad", "_law_drawn", "_law_numbered", "_law_looks", "_law_due", "_law_is_rows", "_law_turned", "_law_others", "_law_small_ones", "law"], globs := ["RESERVED", "_LONGEST_NAME"], cls := [{ name := "Model", meths := ["arrows", "marked", "plain"] }], exc := [], efl := [] }
abbrev st_is_name : Stmt := top 7
def nm_is_name : List Str := ["value", "letter"]
def pr_is_name : List Str := ["value"]
def ir_is_name : Cms :=
    (.cons (.ite (.ors (.cons (.nt (.val (.isi (.var 0) "str"))) (.one (.cmp .isin (.var 0) (.glb 0))))) (.cons (.ret (.lit (.bl false))) .nil) .nil)
    (.cons (.ite (.nt (.chain .le .le (.lit (.int 1)) (.blt .len (.cons (.var 0) .nil)) (.glb 1))) (.cons (.ret (.lit (.bl false))) .nil) .nil)
    (.cons (.ret (.blt .all (.cons (.lc false [("letter", 1)] (.one 1) (.seq (.var 0)) .yes (.chain .le .le (.lit (.str z_a)) (.var 1) (.lit (.str z_z)))) .nil)))
    .nil)))
abbrev st_rows_of_pairs : Stmt := top 10
def nm_rows_of_pairs : List Str := ["world_count", "pairs", "rows", "here", "there", "_", "row"]
def pr_rows_of_pairs : List Str := ["world_count", "pairs"]
def ir_rows_of_pairs : Cms :=
    (.cons (.set 2 (.lc false [("_", 5)] (.one 5) (.rng1 (.var 0)) .yes (.lst true .nil)))
    (.cons (.for (.tup [3, 4]) (.seq (.var 1)) (.cons (.ite (.ors (.cons (.cmp .lt (.var 3) (.lit (.int 0))) (.cons (.cmp .ge (.var 3) (.var 0)) (.cons (.cmp .lt (.var 4) (.lit (.int 0))) (.one (.cmp .ge (.var 4) (.var 0))))))) (.cons .never .nil) .nil) (.cons (.ex (.meth .append (.idx (.var 2) (.var 3)) (.cons (.var 4) .nil))) .nil)))
    (.cons (.ret (.lc false [("row", 6)] (.one 6) (.seq (.var 2)) .yes (.srts false (.var 6))))
    .nil)))
abbrev st_row_of_worlds : Stmt := top 11
def nm_row_of_worlds : List Str := ["world_count", "worlds", "world"]
def pr_row_of_worlds : List Str := ["world_count", "worlds"]
def ir_row_of_worlds : Cms :=
    (.cons (.for (.one 2) (.seq (.var 1)) (.cons (.ite (.ors (.cons (.cmp .lt (.var 2) (.lit (.int 0))) (.one (.cmp .ge (.var 2) (.var 0))))) (.cons .never .nil) .nil) .nil))
    (.cons (.ret (.srts false (.var 1)))
    .nil))
abbrev st_mark_rows : Stmt := top 13
def nm_mark_rows : List Str := ["model", "atoms", "rows", "atom", "holders", "_", "world", "row"]
def pr_mark_rows : List Str := ["model", "atoms"]
def ir_mark_rows : Cms :=
    (.cons (.set 2 (.lc false [("_", 5)] (.one 5) (.rng1 (.fld (.var 0) "world_count")) .yes (.tup .nil)))
    (.cons (.for (.one 3) (.seq (.var 1)) (.cons (.set 4 (.omt 0 1 (.var 0) (.cons (.var 3) .nil))) (.cons (.set 2 (.lc false [("world", 6), ("row", 7)] (.tup [6, 7]) (.enum (.var 2)) .yes (.bin .add false (.var 7) (.tup (.cons (.cmp .isin (.var 6) (.var 4)) .nil))))) .nil)))
    (.cons (.ret (.var 2))
    .nil)))
abbrev st_sight_rows : Stmt := top 14
def nm_sight_rows : List Str := ["model", "name", "rows", "start", "end", "_"]
def pr_sight_rows : List Str := ["model", "name"]
def ir_sight_rows : Cms :=
    (.cons (.set 2 (.lc false [("_", 5)] (.one 5) (.rng1 (.fld (.var 0) "world_count")) .yes (.lst true .nil)))
    (.cons (.for (.tup [3, 4]) (.seq (.omt 0 0 (.var 0) (.cons (.var 1) .nil))) (.cons (.ex (.meth .append (.idx (.var 2) (.var 3)) (.cons (.var 4) .nil))) .nil))
    (.cons (.ret (.gst (.var 2)))
    .nil)))
abbrev st_numbered : Stmt := top 15
def nm_numbered : List Str := ["keys", "known", "numbers", "key"]
def pr_numbered : List Str := ["keys"]
def ir_numbered : Cms :=
    (.cons (.set 1 .dnk0)
    (.cons (.set 2 (.lst true .nil))
    (.cons (.for (.one 3) (.seq (.var 0)) (.cons (.ite (.cmp .notin (.var 3) (.var 1)) (.cons (.setIx (.var 1) (.var 3) (.blt .len (.cons (.var 1) .nil))) .nil) .nil) (.cons (.ex (.meth .append (.var 2) (.cons (.idx (.var 1) (.var 3)) .nil))) .nil)))
    (.cons (.ret (.var 2))
    .nil))))
abbrev st_next_numbers : Stmt := top 16
def nm_next_numbers : List Str := ["model", "names", "numbers", "keys", "name", "rows", "number", "end", "world", "key"]
def pr_next_numbers : List Str := ["model", "names", "numbers"]
def ir_next_numbers : Cms :=
    (.cons (.set 3 (.lc false [("number", 6)] (.one 6) (.seq (.var 2)) .yes (.tup (.cons (.var 6) .nil))))
    (.cons (.for (.one 4) (.seq (.var 1)) (.cons (.set 5 (.call 4 (.cons (.var 0) (.cons (.var 4) .nil)))) (.cons (.set 3 (.lc false [("world", 8), ("key", 9)] (.tup [8, 9]) (.enum (.var 3)) .yes (.bin .add false (.var 9) (.tup (.cons (.blt .tuple (.cons (.srtsc false [("end", 7)] (.one 7) (.seq (.idx (.var 5) (.var 8))) .yes (.idx (.var 2) (.var 7))) .nil)) .nil))))) .nil)))
    (.cons (.ret (.call 5 (.cons (.var 3) .nil)))
    .nil)))
abbrev st_stages : Stmt := top 17
def nm_stages : List Str := ["model", "names", "atoms", "found", "later"]
def pr_stages : List Str := ["model", "names", "atoms"]
def ir_stages : Cms :=
    (.cons (.set 3 (.lst true (.cons (.call 5 (.cons (.call 3 (.cons (.var 0) (.cons (.var 2) .nil))) .nil)) .nil)))
    (.cons (.whl (.tru (.lit (.bl true))) (.cons (.set 4 (.call 6 (.cons (.var 0) (.cons (.var 1) (.cons (.idx (.var 3) (.neg (.lit (.int 1)))) .nil))))) (.cons (.ite (.cmp .eq (.var 4) (.idx (.var 3) (.neg (.lit (.int 1))))) (.cons (.ret (.var 3)) .nil) .nil) (.cons (.ex (.meth .append (.var 3) (.cons (.var 4) .nil))) .nil))))
    .nil))
abbrev st_law_box : Stmt := top 19
def nm_law_box : List Str := ["script", "kept", "small", "cell"]
def pr_law_box : List Str := ["script"]
def ir_law_box : Cms :=
    (.cons (.set 1 (.lst true .nil))
    (.cons (.set 2 (.lst true .nil))
    (.cons (.for (.one 3) (.seq (.slc false (.var 0) .no (.so (.lit (.int 63))))) (.cons (.ex (.meth .append (.var 1) (.cons (.ife (.cmp .ge (.blt .abs (.cons (.var 3) .nil)) (.bin .pow false (.lit (.int 10)) (.lit (.int 18)))) (.blt .abs (.cons (.var 3) .nil)) (.lit (.int 0))) .nil))) (.cons (.ex (.meth .append (.var 2) (.cons (.bin .mod false (.blt .int (.cons (.var 3) .nil)) (.lit (.int 2147483647))) .nil))) .nil)))
    (.cons (.ite (.cmp .eq (.var 2) (.lst false .nil)) (.cons (.set 1 (.lst true (.cons (.lit (.int 0)) .nil))) (.cons (.set 2 (.lst true (.cons (.lit (.int 0)) .nil))) .nil)) .nil)
    (.cons (.ret (.lst true (.cons (.var 1) (.cons (.frz (.var 2)) (.cons (.lst true (.cons (.lit (.int 0)) .nil)) .nil)))))
    .nil)))))
abbrev st_law_take : Stmt := top 20
def nm_law_take : List Str := ["box", "many", "count", "at", "rest", "mixed"]
def pr_law_take : List Str := ["box", "many"]
def ir_law_take : Cms :=
    (.cons (.set 2 (.idx (.idx (.var 0) (.lit (.int 2))) (.lit (.int 0))))
    (.cons (.setIx (.idx (.var 0) (.lit (.int 2))) (.lit (.int 0)) (.bin .add false (.var 2) (.lit (.int 1))))
    (.cons (.set 3 (.bin .mod false (.blt .int (.cons (.var 2) .nil)) (.blt .len (.cons (.idx (.var 0) (.lit (.int 1))) .nil))))
    (.cons (.set 4 (.idx (.idx (.var 0) (.lit (.int 0))) (.var 3)))
    (.cons (.ite (.cmp .gt (.var 4) (.lit (.int 0))) (.cons (.setIx (.idx (.var 0) (.lit (.int 0))) (.var 3) (.bin .fdiv false (.var 4) (.var 1))) (.cons (.ret (.bin .mod false (.blt .int (.cons (.var 4) .nil)) (.var 1))) .nil)) .nil)
    (.cons (.set 5 (.bin .mod false (.blt .int (.cons (.bin .add false (.bin .add false (.bin .mul false (.idx (.idx (.var 0) (.lit (.int 1))) (.var 3)) (.lit (.int 48271))) (.bin .mul false (.var 2) (.lit (.int 69621)))) (.lit (.int 12345))) .nil)) (.lit (.int 2147483647))))
    (.cons (.set 5 (.bin .mod false (.blt .int (.cons (.bin .mul false (.var 5) (.bin .add false (.bin .add false (.var 5) (.bin .mul false (.lit (.int 31)) (.var 2))) (.lit (.int 7)))) .nil)) (.lit (.int 2147483629))))
    (.cons (.set 5 (.bin .mod false (.blt .int (.cons (.bin .add false (.bin .mul false (.var 5) (.lit (.int 16807))) (.bin .mul false (.var 2) (.lit (.int 40692)))) .nil)) (.lit (.int 2147483563))))
    (.cons (.ret (.bin .mod false (.blt .int (.cons (.bin .fdiv false (.var 5) (.lit (.int 64))) .nil)) (.var 1)))
    .nil)))))))))
abbrev st_law_word : Stmt := top 21
def nm_law_word : List Str := ["box", "taken", "letters", "word", "turn", "letter"]
def pr_law_word : List Str := ["box", "taken"]
def ir_law_word : Cms :=
    (.cons (.set 2 (.lit (.str z_abcdefghijklmnopqrstuvwxyz)))
    (.cons (.set 3 (.lit (.str z_empty')))
    (.cons (.for (.one 4) (.rng1 (.bin .add false (.lit (.int 1)) (.call 9 (.cons (.var 0) (.cons (.lit (.int 11)) .nil))))) (.cons (.set 3 (.bin .add false (.var 3) (.idx (.var 2) (.call 9 (.cons (.var 0) (.cons (.lit (.int 26)) .nil)))))) .nil))
    (.cons (.for (.one 5) (.seq (.var 2)) (.cons (.ite (.ands (.cons (.cmp .notin (.var 3) (.var 1)) (.one (.cmp .notin (.var 3) (.tup (.cons (.lit (.str z_no)) (.cons (.lit (.str z_not)) (.cons (.lit (.str z_and)) (.cons (.lit (.str z_or)) (.cons (.lit (.str z_if)) (.cons (.lit (.str z_then)) (.cons (.lit (.str z_must)) (.cons (.lit (.str z_may)) .nil))))))))))))) (.cons .brk .nil) .nil) (.cons (.set 3 (.bin .add false (.slc false (.var 3) .no (.so (.neg (.lit (.int 1))))) (.var 5))) .nil)))
    (.cons (.ret (.var 3))
    .nil)))))
abbrev st_law_words : Stmt := top 22
def nm_law_words : List Str := ["box", "names", "turn", "atoms"]
def pr_law_words : List Str := ["box"]
def ir_law_words : Cms :=
    (.cons (.set 1 (.lst true .nil))
    (.cons (.for (.one 2) (.rng1 (.bin .add false (.lit (.int 1)) (.call 9 (.cons (.var 0) (.cons (.lit (.int 3)) .nil))))) (.cons (.ex (.meth .append (.var 1) (.cons (.call 10 (.cons (.var 0) (.cons (.var 1) .nil))) .nil))) .nil))
    (.cons (.ite (.cmp .eq (.call 9 (.cons (.var 0) (.cons (.lit (.int 4)) .nil))) (.lit (.int 0))) (.cons (.setIx (.var 1) (.lit (.int 0)) (.lit (.str z_if))) .nil) .nil)
    (.cons (.set 3 (.lst true .nil))
    (.cons (.for (.one 2) (.rng1 (.call 9 (.cons (.var 0) (.cons (.lit (.int 4)) .nil)))) (.cons (.ite (.ands (.cons (.cmp .eq (.var 2) (.lit (.int 0))) (.cons (.cmp .ne (.idx (.var 1) (.lit (.int 0))) (.lit (.str z_if))) (.one (.cmp .eq (.call 9 (.cons (.var 0) (.cons (.lit (.int 4)) .nil))) (.lit (.int 0))))))) (.cons (.ex (.meth .append (.var 3) (.cons (.idx (.var 1) (.lit (.int 0))) .nil))) .nil) (.cons (.ex (.meth .append (.var 3) (.cons (.call 10 (.cons (.var 0) (.cons (.var 3) .nil))) .nil))) .nil)) .nil))
    (.cons (.ret (.lst false (.cons (.frz (.var 1)) (.cons (.frz (.var 3)) .nil))))
    .nil))))))
abbrev st_law_given : Stmt := top 23
def nm_law_given : List Str := ["box", "words", "given", "word"]
def pr_law_given : List Str := ["box", "words"]
def ir_law_given : Cms :=
    (.cons (.set 2 (.lst true .nil))
    (.cons (.for (.one 3) (.seq (.var 1)) (.cons (.ite (.cmp .gt (.call 9 (.cons (.var 0) (.cons (.lit (.int 5)) .nil))) (.lit (.int 0))) (.cons (.ex (.meth .insert (.var 2) (.cons (.call 9 (.cons (.var 0) (.cons (.bin .add false (.blt .len (.cons (.var 2) .nil)) (.lit (.int 1))) .nil))) (.cons (.var 3) .nil)))) .nil) .nil) .nil))
    (.cons (.ite (.cmp .eq (.call 9 (.cons (.var 0) (.cons (.lit (.int 4)) .nil))) (.lit (.int 0))) (.cons (.ex (.meth .insert (.var 2) (.cons (.call 9 (.cons (.var 0) (.cons (.bin .add false (.blt .len (.cons (.var 2) .nil)) (.lit (.int 1))) .nil))) (.cons (.lit (.str z_nowherefound)) .nil)))) .nil) .nil)
    (.cons (.ret (.frz (.var 2)))
    .nil))))
abbrev st_law_rows : Stmt := top 24
def nm_law_rows : List Str := ["box", "count", "way", "rows", "x", "mask", "y"]
def pr_law_rows : List Str := ["box", "count"]
def ir_law_rows : Cms :=
    (.cons (.set 2 (.call 9 (.cons (.var 0) (.cons (.lit (.int 3)) .nil))))
    (.cons (.set 3 (.lst true .nil))
    (.cons (.for (.one 4) (.rng1 (.var 1)) (.cons (.set 5 (.call 9 (.cons (.var 0) (.cons (.bin .shl false (.lit (.int 1)) (.var 1)) .nil)))) (.cons (.ite (.cmp .eq (.var 2) (.lit (.int 1))) (.cons (.set 5 (.bin .band false (.var 5) (.call 9 (.cons (.var 0) (.cons (.bin .shl false (.lit (.int 1)) (.var 1)) .nil))))) .nil) .nil) (.cons (.ex (.meth .append (.var 3) (.cons (.lc false [("y", 6)] (.one 6) (.rng1 (.var 1)) (.ands (.cons (.cmp .eq (.bin .band false (.bin .shr false (.var 5) (.var 6)) (.lit (.int 1))) (.lit (.int 1))) (.one (.ors (.cons (.cmp .lt (.var 2) (.lit (.int 2))) (.one (.cmp .gt (.var 6) (.var 4)))))))) (.var 6)) .nil))) .nil))))
    (.cons (.ret (.var 3))
    .nil))))
abbrev st_law_made : Stmt := top 25
def nm_law_made : List Str := ["count", "links", "spots", "leads", "name", "pairs", "x", "y", "places", "atom"]
def pr_law_made : List Str := ["count", "links", "spots"]
def ir_law_made : Cms :=
    (.cons (.set 3 .dct0)
    (.cons (.for (.one 4) (.seq (.var 1)) (.cons (.set 5 (.lst true .nil)) (.cons (.for (.one 6) (.rng1 (.var 0)) (.cons (.for (.one 7) (.seq (.idx (.idx (.var 1) (.var 4)) (.var 6))) (.cons (.ex (.meth .append (.var 5) (.cons (.tup (.cons (.var 6) (.cons (.var 7) .nil))) .nil))) .nil)) .nil)) (.cons (.ite (.cmp .ne (.var 5) (.lst false .nil)) (.cons (.setIx (.var 3) (.var 4) (.frz (.var 5))) .nil) .nil) .nil))))
    (.cons (.set 8 .dct0)
    (.cons (.for (.one 9) (.seq (.var 2)) (.cons (.ite (.cmp .ne (.idx (.var 2) (.var 9)) (.lst false .nil)) (.cons (.setIx (.var 8) (.var 9) (.blt (.list false) (.cons (.idx (.var 2) (.var 9)) .nil))) .nil) .nil) .nil))
    (.cons (.ret (.mk 0 (.cons (.var 0) (.cons (.gst (.var 3)) (.cons (.gst (.var 8)) .nil)))))
    .nil)))))
abbrev st_law_chain : Stmt := top 26
def nm_law_chain : List Str := ["box", "names", "atoms", "count", "shift", "turn", "order", "links", "name", "rows", "w", "back", "spots", "atom"]
def pr_law_chain : List Str := ["box", "names", "atoms"]
def ir_law_chain : Cms :=
    (.cons (.set 3 (.bin .add false (.lit (.int 6)) (.call 9 (.cons (.var 0) (.cons (.lit (.int 15)) .nil)))))
    (.cons (.set 4 (.call 9 (.cons (.var 0) (.cons (.var 3) .nil))))
    (.cons (.set 5 (.bin .sub false (.lit (.int 1)) (.bin .mul false (.lit (.int 2)) (.call 9 (.cons (.var 0) (.cons (.lit (.int 2)) .nil))))))
    (.cons (.set 6 (.lc false [("w", 10)] (.one 10) (.rng1 (.var 3)) .yes (.bin .mod false (.blt .int (.cons (.bin .add false (.bin .add false (.var 4) (.bin .mul false (.var 5) (.var 10))) (.var 3)) .nil)) (.var 3))))
    (.cons (.set 7 .dct0)
    (.cons (.for (.one 8) (.seq (.var 1)) (.cons (.setIx (.var 7) (.var 8) (.lc false [("w", 10)] (.one 10) (.rng1 (.var 3)) .yes (.lst true .nil))) (.cons (.ex (.meth .append (.idx (.idx (.var 7) (.var 8)) (.call 9 (.cons (.var 0) (.cons (.var 3) .nil)))) (.cons (.call 9 (.cons (.var 0) (.cons (.var 3) .nil))) .nil))) .nil)))
    (.cons (.set 9 (.lc false [("w", 10)] (.one 10) (.rng1 (.var 3)) .yes (.lst true .nil)))
    (.cons (.for (.one 10) (.rng1 (.bin .sub false (.var 3) (.lit (.int 1)))) (.cons (.ex (.meth .append (.idx (.var 9) (.idx (.var 6) (.var 10))) (.cons (.idx (.var 6) (.bin .add false (.var 10) (.lit (.int 1)))) .nil))) .nil))
    (.cons (.set 11 (.call 9 (.cons (.var 0) (.cons (.bin .mul false (.lit (.int 2)) (.var 3)) .nil))))
    (.cons (.ite (.cmp .lt (.var 11) (.var 3)) (.cons (.ex (.meth .append (.idx (.var 9) (.idx (.var 6) (.bin .sub false (.var 3) (.lit (.int 1))))) (.cons (.idx (.var 6) (.var 11)) .nil))) .nil) .nil)
    (.cons (.setIx (.var 7) (.idx (.var 1) (.lit (.int 0))) (.var 9))
    (.cons (.set 12 .dct0)
    (.cons (.for (.one 13) (.seq (.var 2)) (.cons (.setIx (.var 12) (.var 13) (.lc false [("w", 10)] (.one 10) (.seq (.lst false (.cons (.call 9 (.cons (.var 0) (.cons (.bin .mul false (.lit (.int 2)) (.var 3)) .nil))) .nil))) (.cmp .lt (.var 10) (.var 3)) (.var 10))) .nil))
    (.cons (.ret (.lst false (.cons (.var 3) (.cons (.gst (.var 7)) (.cons (.gst (.var 12)) .nil)))))
    .nil))))))))))))))
abbrev st_law_broad : Stmt := top 27
def nm_law_broad : List Str := ["box", "names", "atoms", "count", "links", "name", "rows", "step", "shift", "w", "mask", "spots", "atom", "y"]
def pr_law_broad : List Str := ["box", "names", "atoms"]
def ir_law_broad : Cms :=
    (.cons (.set 3 (.bin .add false (.lit (.int 30)) (.call 9 (.cons (.var 0) (.cons (.lit (.int 35)) .nil)))))
    (.cons (.set 4 .dct0)
    (.cons (.for (.one 5) (.seq (.var 1)) (.cons (.set 6 (.call 13 (.cons (.var 0) (.cons (.lit (.int 5)) .nil)))) (.cons (.set 7 (.bin .add false (.lit (.int 1)) (.call 9 (.cons (.var 0) (.cons (.lit (.int 31)) .nil))))) (.cons (.set 8 (.call 9 (.cons (.var 0) (.cons (.lit (.int 32)) .nil)))) (.cons (.for (.one 9) (.rng2 (.lit (.int 5)) (.var 3)) (.cons (.set 10 (.bin .mod false (.blt .int (.cons (.bin .add false (.bin .mul false (.var 9) (.var 7)) (.var 8)) .nil)) (.lit (.int 32)))) (.cons (.ex (.meth .append (.var 6) (.cons (.lc false [("y", 13)] (.one 13) (.rng1 (.lit (.int 5))) (.cmp .eq (.bin .band false (.bin .shr false (.var 10) (.var 13)) (.lit (.int 1))) (.lit (.int 1))) (.var 13)) .nil))) .nil))) (.cons (.setIx (.var 4) (.var 5) (.frz (.var 6))) .nil))))))
    (.cons (.set 11 .dct0)
    (.cons (.for (.one 12) (.seq (.var 2)) (.cons (.set 7 (.bin .add false (.lit (.int 1)) (.call 9 (.cons (.var 0) (.cons (.lit (.int 6)) .nil))))) (.cons (.set 8 (.call 9 (.cons (.var 0) (.cons (.lit (.int 7)) .nil)))) (.cons (.setIx (.var 11) (.var 12) (.lc false [("w", 9)] (.one 9) (.rng1 (.var 3)) (.cmp .lt (.bin .mod false (.blt .int (.cons (.bin .add false (.bin .mul false (.var 9) (.var 7)) (.var 8)) .nil)) (.lit (.int 7))) (.lit (.int 2))) (.var 9))) .nil))))
    (.cons (.ret (.lst false (.cons (.var 3) (.cons (.gst (.var 4)) (.cons (.gst (.var 11)) .nil)))))
    .nil))))))
abbrev st_law_drawn : Stmt := top 28
def nm_law_drawn : List Str := ["box", "names", "atoms", "way", "count", "links", "name", "spots", "atom", "mask", "w"]
def pr_law_drawn : List Str := ["box", "names", "atoms"]
def ir_law_drawn : Cms :=
    (.cons (.set 3 (.call 9 (.cons (.var 0) (.cons (.lit (.int 24)) .nil))))
    (.cons (.ite (.cmp .eq (.var 3) (.lit (.int 0))) (.cons (.ret (.call 15 (.cons (.var 0) (.cons (.var 1) (.cons (.var 2) .nil))))) .nil) .nil)
    (.cons (.ite (.cmp .eq (.var 3) (.lit (.int 1))) (.cons (.ret (.call 16 (.cons (.var 0) (.cons (.var 1) (.cons (.var 2) .nil))))) .nil) .nil)
    (.cons (.set 4 (.bin .add false (.lit (.int 1)) (.call 9 (.cons (.var 0) (.cons (.lit (.int 5)) .nil)))))
    (.cons (.set 5 .dct0)
    (.cons (.for (.one 6) (.seq (.var 1)) (.cons (.setIx (.var 5) (.var 6) (.frz (.call 13 (.cons (.var 0) (.cons (.var 4) .nil))))) .nil))
    (.cons (.set 7 .dct0)
    (.cons (.for (.one 8) (.seq (.var 2)) (.cons (.set 9 (.call 9 (.cons (.var 0) (.cons (.bin .shl false (.lit (.int 1)) (.var 4)) .nil)))) (.cons (.setIx (.var 7) (.var 8) (.lc false [("w", 10)] (.one 10) (.rng1 (.var 4)) (.cmp .eq (.bin .band false (.bin .shr false (.var 9) (.var 10)) (.lit (.int 1))) (.lit (.int 1))) (.var 10))) .nil)))
    (.cons (.ret (.lst false (.cons (.var 4) (.cons (.gst (.var 5)) (.cons (.gst (.var 7)) .nil)))))
    .nil)))))))))
abbrev st_law_numbered : Stmt := top 29
def nm_law_numbered : List Str := ["keys", "numbers", "row", "key"]
def pr_law_numbered : List Str := ["keys"]
def ir_law_numbered : Cms :=
    (.cons (.set 1 .dnk0)
    (.cons (.set 2 (.lst true .nil))
    (.cons (.for (.one 3) (.seq (.var 0)) (.cons (.ite (.cmp .notin (.var 3) (.var 1)) (.cons (.setIx (.var 1) (.var 3) (.blt .len (.cons (.var 1) .nil))) .nil) .nil) (.cons (.ex (.meth .append (.var 2) (.cons (.idx (.var 1) (.var 3)) .nil))) .nil)))
    (.cons (.ret (.frz (.var 2)))
    .nil))))
abbrev st_law_looks : Stmt := top 30
def nm_law_looks : List Str := ["links", "name", "x", "row", "y"]
def pr_law_looks : List Str := ["links", "name", "x", "row"]
def ir_law_looks : Cms :=
    (.cons (.ite (.cmp .notin (.var 1) (.var 0)) (.cons (.ret (.tup .nil)) .nil) .nil)
    (.cons (.ret (.blt .tuple (.cons (.srts false (.lc false [("y", 4)] (.one 4) (.seq (.idx (.idx (.var 0) (.var 1)) (.var 2))) .yes (.idx (.var 3) (.var 4)))) .nil)))
    .nil))
abbrev st_law_due : Stmt := top 31
def nm_law_due : List Str := ["drawn", "given", "wanted", "count", "keys", "x", "due", "turn", "looks", "row", "atom", "name"]
def pr_law_due : List Str := ["drawn", "given", "wanted"]
def ir_law_due : Cms :=
    (.cons (.set 3 (.idx (.var 0) (.lit (.int 0))))
    (.cons (.set 4 (.lst true .nil))
    (.cons (.for (.one 5) (.rng1 (.var 3)) (.cons (.ex (.meth .append (.var 4) (.cons (.blt .tuple (.cons (.lc false [("atom", 10)] (.one 10) (.seq (.var 2)) .yes (.cmp .isin (.var 5) (.dget (.idx (.var 0) (.lit (.int 2))) (.var 10) (.lst false .nil)))) .nil)) .nil))) .nil))
    (.cons (.set 6 (.lst true (.cons (.call 18 (.cons (.frz (.var 4)) .nil)) .nil)))
    (.cons (.for (.one 7) (.rng1 (.bin .add false (.var 3) (.lit (.int 1)))) (.cons (.set 4 (.lst true .nil)) (.cons (.for (.one 5) (.rng1 (.var 3)) (.cons (.set 8 (.lc false [("name", 11)] (.one 11) (.seq (.var 1)) .yes (.call 19 (.cons (.idx (.var 0) (.lit (.int 1))) (.cons (.var 11) (.cons (.var 5) (.cons (.idx (.var 6) (.var 7)) .nil))))))) (.cons (.ex (.meth .append (.var 4) (.cons (.tup (.cons (.idx (.idx (.var 6) (.lit (.int 0))) (.var 5)) (.cons (.blt .tuple (.cons (.var 8) .nil)) .nil))) .nil))) .nil))) (.cons (.set 9 (.call 18 (.cons (.var 4) .nil))) (.cons (.ite (.cmp .eq (.var 9) (.idx (.var 6) (.var 7))) (.cons .brk .nil) .nil) (.cons (.ex (.meth .append (.var 6) (.cons (.var 9) .nil))) .nil))))))
    (.cons (.ret (.frz (.var 6)))
    .nil))))))
abbrev st_law_is_rows : Stmt := top 32
def nm_law_is_rows : List Str := ["told", "row", "number"]
def pr_law_is_rows : List Str := ["told"]
def ir_law_is_rows : Cms :=
    (.cons (.ite (.nt (.val (.isi (.var 0) "list"))) (.cons (.ret (.lit (.bl false))) .nil) .nil)
    (.cons (.for (.one 1) (.seq (.var 0)) (.cons (.ite (.nt (.val (.isi (.var 1) "list"))) (.cons (.ret (.lit (.bl false))) .nil) .nil) (.cons (.for (.one 2) (.seq (.var 1)) (.cons (.ite (.ors (.cons (.nt (.val (.isi (.var 2) "int"))) (.one (.val (.isi (.var 2) "bool"))))) (.cons (.ret (.lit (.bl false))) .nil) .nil) .nil)) .nil)))
    (.cons (.ret (.lit (.bl true)))
    .nil)))
abbrev st_law_turned : Stmt := top 33
def nm_law_turned : List Str := ["rows", "x", "y", "fresh", "row"]
def pr_law_turned : List Str := ["rows", "x", "y"]
def ir_law_turned : Cms :=
    (.cons (.set 3 (.lc true [("row", 4)] (.one 4) (.seq (.var 0)) .yes (.blt (.list true) (.cons (.var 4) .nil))))
    (.cons (.ite (.cmp .isin (.var 2) (.idx (.var 3) (.var 1))) (.cons (.ex (.meth .remove (.idx (.var 3) (.var 1)) (.cons (.var 2) .nil))) .nil) (.cons (.setIx (.var 3) (.var 1) (.blt (.sorti false) (.cons (.bin .add false (.idx (.var 3) (.var 1)) (.lst false (.cons (.var 2) .nil))) .nil))) .nil))
    (.cons (.ret (.gst (.var 3)))
    .nil)))
abbrev st_law_others : Stmt := top 34
def nm_law_others : List Str := ["box", "drawn", "names", "atoms", "count", "name", "links", "key", "found", "atom", "spots"]
def pr_law_others : List Str := ["box", "drawn", "names", "atoms"]
def ir_law_others : Cms :=
    (.cons (.set 4 (.idx (.var 1) (.lit (.int 0))))
    (.cons (.set 5 (.idx (.var 2) (.call 9 (.cons (.var 0) (.cons (.blt .len (.cons (.var 2) .nil)) .nil)))))
    (.cons (.set 6 .dct0)
    (.cons (.for (.one 7) (.seq (.idx (.var 1) (.lit (.int 1)))) (.cons (.setIx (.var 6) (.var 7) (.idx (.idx (.var 1) (.lit (.int 1))) (.var 7))) .nil))
    (.cons (.setIx (.var 6) (.var 5) (.call 22 (.cons (.idx (.var 6) (.var 5)) (.cons (.call 9 (.cons (.var 0) (.cons (.var 4) .nil))) (.cons (.call 9 (.cons (.var 0) (.cons (.var 4) .nil))) .nil)))))
    (.cons (.set 8 (.lst true (.cons (.lst false (.cons (.var 4) (.cons (.gst (.var 6)) (.cons (.idx (.var 1) (.lit (.int 2))) .nil)))) .nil)))
    (.cons (.ite (.cmp .ne (.var 3) (.lst false .nil)) (.cons (.set 9 (.idx (.var 3) (.call 9 (.cons (.var 0) (.cons (.blt .len (.cons (.var 3) .nil)) .nil))))) (.cons (.set 10 .dct0) (.cons (.for (.one 7) (.seq (.idx (.var 1) (.lit (.int 2)))) (.cons (.setIx (.var 10) (.var 7) (.idx (.idx (.var 1) (.lit (.int 2))) (.var 7))) .nil)) (.cons (.setIx (.var 10) (.var 9) (.idx (.call 22 (.cons (.lst false (.cons (.idx (.var 10) (.var 9)) .nil)) (.cons (.lit (.int 0)) (.cons (.call 9 (.cons (.var 0) (.cons (.var 4) .nil))) .nil)))) (.lit (.int 0)))) (.cons (.ex (.meth .append (.var 8) (.cons (.lst false (.cons (.var 4) (.cons (.idx (.var 1) (.lit (.int 1))) (.cons (.gst (.var 10)) .nil)))) .nil))) .nil))))) .nil)
    (.cons (.ret (.frz (.var 8)))
    .nil))))))))
abbrev st_law_small_ones : Stmt := top 35
def nm_law_small_ones : List Str := ["box", "drawn", "words", "made", "given", "wanted", "due", "other", "beside", "told"]
def pr_law_small_ones : List Str := ["box", "drawn", "words", "made", "given", "wanted", "due"]
def ir_law_small_ones : Cms :=
    (.cons (.ite (.cmp .ne (.call 7 (.cons (.var 3) (.cons (.lst false .nil) (.cons (.blt (.list false) (.cons (.var 5) .nil)) .nil)))) (.lst false (.cons (.idx (.var 6) (.lit (.int 0))) .nil))) (.cons (.ret (.lit (.bl false))) .nil) .nil)
    (.cons (.ite (.cmp .ne (.call 7 (.cons (.var 3) (.cons (.blt (.list false) (.cons (.var 4) .nil)) (.cons (.lst false .nil) .nil)))) (.call 20 (.cons (.var 1) (.cons (.var 4) (.cons (.lst false .nil) .nil))))) (.cons (.ret (.lit (.bl false))) .nil) .nil)
    (.cons (.for (.one 7) (.seq (.call 23 (.cons (.var 0) (.cons (.var 1) (.cons (.idx (.var 2) (.lit (.int 0))) (.cons (.idx (.var 2) (.lit (.int 1))) .nil)))))) (.cons (.set 8 (.call 14 (.cons (.idx (.var 7) (.lit (.int 0))) (.cons (.idx (.var 7) (.lit (.int 1))) (.cons (.idx (.var 7) (.lit (.int 2))) .nil))))) (.cons (.set 9 (.call 7 (.cons (.var 8) (.cons (.blt (.list false) (.cons (.var 4) .nil)) (.cons (.blt (.list false) (.cons (.var 5) .nil)) .nil))))) (.cons (.ite (.ors (.cons (.nt (.val (.call 21 (.cons (.var 9) .nil)))) (.one (.cmp .ne (.var 9) (.call 20 (.cons (.var 7) (.cons (.var 4) (.cons (.var 5) .nil)))))))) (.cons (.ret (.lit (.bl false))) .nil) .nil) (.cons (.ite (.cmp .ne (.call 7 (.cons (.var 3) (.cons (.blt (.list false) (.cons (.var 4) .nil)) (.cons (.blt (.list false) (.cons (.var 5) .nil)) .nil)))) (.var 6)) (.cons (.ret (.lit (.bl false))) .nil) .nil) .nil)))))
    (.cons (.ret (.lit (.bl true)))
    .nil))))
abbrev st_law : Stmt := top 36
def nm_law : List Str := ["script", "box", "words", "drawn", "given", "wanted", "made", "kept", "due", "told", "names", "atoms"]
def pr_law : List Str := ["script"]
def ir_law : Cms :=
    (.cons (.set 1 (.call 8 (.cons (.var 0) .nil)))
    (.cons (.set 2 (.call 11 (.cons (.var 1) .nil)))
    (.cons (.set 3 (.call 17 (.cons (.var 1) (.cons (.idx (.var 2) (.lit (.int 0))) (.cons (.idx (.var 2) (.lit (.int 1))) .nil)))))
    (.cons (.set 4 (.call 12 (.cons (.var 1) (.cons (.idx (.var 2) (.lit (.int 0))) .nil))))
    (.cons (.set 5 (.call 12 (.cons (.var 1) (.cons (.idx (.var 2) (.lit (.int 1))) .nil))))
    (.cons (.set 6 (.call 14 (.cons (.idx (.var 3) (.lit (.int 0))) (.cons (.idx (.var 3) (.lit (.int 1))) (.cons (.idx (.var 3) (.lit (.int 2))) .nil)))))
    (.cons (.set 7 (.omt 0 2 (.var 6) .nil))
    (.cons (.set 8 (.call 20 (.cons (.var 3) (.cons (.var 4) (.cons (.var 5) .nil)))))
    (.cons (.set 9 (.call 7 (.cons (.var 6) (.cons (.blt (.list false) (.cons (.var 4) .nil)) (.cons (.blt (.list false) (.cons (.var 5) .nil)) .nil)))))
    (.cons (.ite (.ors (.cons (.nt (.val (.call 21 (.cons (.var 9) .nil)))) (.one (.cmp .ne (.var 9) (.var 8))))) (.cons (.ret (.lit (.bl false))) .nil) .nil)
    (.cons (.ex (.meth .append (.idx (.var 9) (.lit (.int 0))) (.cons (.blt .len (.cons (.var 8) .nil)) .nil)))
    (.cons (.ite (.cmp .ne (.slc false (.var 9) (.so (.lit (.int 1))) .no) (.slc false (.var 8) (.so (.lit (.int 1))) .no)) (.cons (.ret (.lit (.bl false))) .nil) .nil)
    (.cons (.ex (.meth .append (.var 9) (.cons (.lst false (.cons (.lit (.int 0)) .nil)) .nil)))
    (.cons (.set 10 (.blt (.list false) (.cons (.var 4) .nil)))
    (.cons (.set 11 (.blt (.list false) (.cons (.var 5) .nil)))
    (.cons (.set 9 (.call 7 (.cons (.var 6) (.cons (.var 10) (.cons (.var 11) .nil)))))
    (.cons (.ite (.ors (.cons (.nt (.val (.call 21 (.cons (.var 9) .nil)))) (.cons (.cmp .ne (.var 9) (.var 8)) (.cons (.cmp .ne (.var 10) (.var 4)) (.one (.cmp .ne (.var 11) (.var 5))))))) (.cons (.ret (.lit (.bl false))) .nil) .nil)
    (.cons (.set 9 (.call 7 (.cons (.var 6) (.cons (.blt .tuple (.cons (.rev false (.var 4)) .nil)) (.cons (.blt .tuple (.cons (.rev false (.var 5)) .nil)) .nil)))))
    (.cons (.ite (.ors (.cons (.nt (.val (.call 21 (.cons (.var 9) .nil)))) (.one (.cmp .ne (.var 9) (.var 8))))) (.cons (.ret (.lit (.bl false))) .nil) .nil)
    (.cons (.ite (.ands (.cons (.cmp .le (.idx (.var 3) (.lit (.int 0))) (.lit (.int 5))) (.one (.nt (.val (.call 24 (.cons (.var 1) (.cons (.var 3) (.cons (.var 2) (.cons (.var 6) (.cons (.var 4) (.cons (.var 5) (.cons (.var 8) .nil))))))))))))) (.cons (.ret (.lit (.bl false))) .nil) .nil)
    (.cons (.ret (.cmp .eq (.omt 0 2 (.var 6) .nil) (.var 7)))
    .nil)))))))))))))))))))))
abbrev st_Model_init : Stmt := inClass (top 9) 0
def nm_Model_init : List Str := ["self", "world_count", "arrows", "marks", "name", "pairs", "atom", "worlds"]
def pr_Model_init : List Str := ["self", "world_count", "arrows", "marks"]
def ir_Model_init : Cms :=
    (.cons (.ite (.cmp .lt (.var 1) (.lit (.int 1))) (.cons .never .nil) .nil)
    (.cons (.setF (.var 0) "world_count" (.var 1))
    (.cons (.setF (.var 0) "_arrows" .dct0)
    (.cons (.for (.tup [4, 5]) (.items (.var 2)) (.cons (.ite (.ands (.cons (.cmp .ne (.var 4) (.lit (.str z_if))) (.one (.nt (.val (.call 0 (.cons (.var 4) .nil))))))) (.cons .never .nil) .nil) (.cons (.ite (.cmp .gt (.blt .len (.cons (.var 5) .nil)) (.lit (.int 0))) (.cons (.setIx (.fld (.var 0) "_arrows") (.var 4) (.call 1 (.cons (.var 1) (.cons (.var 5) .nil)))) .nil) .nil) .nil)))
    (.cons (.setF (.var 0) "_marks" .dct0)
    (.cons (.for (.tup [6, 7]) (.items (.var 3)) (.cons (.ite (.nt (.val (.call 0 (.cons (.var 6) .nil)))) (.cons .never .nil) .nil) (.cons (.ite (.cmp .gt (.blt .len (.cons (.var 7) .nil)) (.lit (.int 0))) (.cons (.setIx (.fld (.var 0) "_marks") (.var 6) (.call 2 (.cons (.var 1) (.cons (.var 7) .nil)))) .nil) .nil) .nil)))
    (.cons (.setF (.var 0) "names" (.blt .tuple (.cons (.blt (.sortd false) (.cons (.fld (.var 0) "_arrows") .nil)) .nil)))
    (.cons (.setF (.var 0) "atoms" (.blt .tuple (.cons (.blt (.sortd false) (.cons (.fld (.var 0) "_marks") .nil)) .nil)))
    .nil))))))))
abbrev st_Model_arrows : Stmt := inClass (top 9) 1
def nm_Model_arrows : List Str := ["self", "name", "rows", "here", "there"]
def pr_Model_arrows : List Str := ["self", "name"]
def ir_Model_arrows : Cms :=
    (.cons (.ite (.cmp .notin (.var 1) (.fld (.var 0) "_arrows")) (.cons (.ret (.lst false .nil)) .nil) .nil)
    (.cons (.set 2 (.idx (.fld (.var 0) "_arrows") (.var 1)))
    (.cons (.ret (.lc2 false [("here", 3), ("there", 4)] [4] (.one 3) (.rng1 (.fld (.var 0) "world_count")) .yes (.one 4) (.seq (.idx (.var 2) (.var 3))) .yes (.tup (.cons (.var 3) (.cons (.var 4) .nil)))))
    .nil)))
abbrev st_Model_marked : Stmt := inClass (top 9) 3
def nm_Model_marked : List Str := ["self", "atom"]
def pr_Model_marked : List Str := ["self", "atom"]
def ir_Model_marked : Cms :=
    (.cons (.ite (.cmp .notin (.var 1) (.fld (.var 0) "_marks")) (.cons (.ret (.lst false .nil)) .nil) .nil)
    (.cons (.ret (.blt (.list false) (.cons (.idx (.fld (.var 0) "_marks") (.var 1)) .nil)))
    .nil))
abbrev st_Model_plain : Stmt := inClass (top 9) 4
def nm_Model_plain : List Str := ["self", "arrow_rows", "mark_rows", "name", "here", "there", "atom", "world"]
def pr_Model_plain : List Str := ["self"]
def ir_Model_plain : Cms :=
    (.cons (.set 1 (.lc2 false [("name", 3), ("here", 4), ("there", 5)] [4, 5] (.one 3) (.seq (.fld (.var 0) "names")) .yes (.tup [4, 5]) (.seq (.omt 0 0 (.var 0) (.cons (.var 3) .nil))) .yes (.tup (.cons (.var 3) (.cons (.var 4) (.cons (.var 5) .nil))))))
    (.cons (.set 2 (.lc2 false [("atom", 6), ("world", 7)] [7] (.one 6) (.seq (.fld (.var 0) "atoms")) .yes (.one 7) (.seq (.idx (.fld (.var 0) "_marks") (.var 6))) .yes (.tup (.cons (.var 6) (.cons (.var 7) .nil)))))
    (.cons (.ret (.tup (.cons (.fld (.var 0) "world_count") (.cons (.blt .tuple (.cons (.var 1) .nil)) (.cons (.blt .tuple (.cons (.var 2) .nil)) .nil)))))
    .nil)))
theorem ck_is_name : chkSs gn nm_is_name ir_is_name (defScope st_is_name) (defBody st_is_name) = true := by decide +kernel
theorem sc_is_name : FnScope nm_is_name pr_is_name (defScope st_is_name) := ⟨rfl, rfl, rfl, by decide +kernel, rfl, by decide +kernel, by decide +kernel⟩
theorem ck_rows_of_pairs : chkSs gn nm_rows_of_pairs ir_rows_of_pairs (defScope st_rows_of_pairs) (defBody st_rows_of_pairs) = true := by decide +kernel
theorem sc_rows_of_pairs : FnScope nm_rows_of_pairs pr_rows_of_pairs (defScope st_rows_of_pairs) := ⟨rfl, rfl, rfl, by decide +kernel, rfl, by decide +kernel, by decide +kernel⟩
theorem ck_row_of_worlds : chkSs gn nm_row_of_worlds ir_row_of_worlds (defScope st_row_of_worlds) (defBody st_row_of_worlds) = true := by decide +kernel
theorem sc_row_of_worlds : FnScope nm_row_of_worlds pr_row_of_worlds (defScope st_row_of_worlds) := ⟨rfl, rfl, rfl, by decide +kernel, rfl, by decide +kernel, by decide +kernel⟩
theorem ck_mark_rows : chkSs gn nm_mark_rows ir_mark_rows (defScope st_mark_rows) (defBody st_mark_rows) = true := by decide +kernel
theorem sc_mark_rows : FnScope nm_mark_rows pr_mark_rows (defScope st_mark_rows) := ⟨rfl, rfl, rfl, by decide +kernel, rfl, by decide +kernel, by decide +kernel⟩
theorem ck_sight_rows : chkSs gn nm_sight_rows ir_sight_rows (defScope st_sight_rows) (defBody st_sight_rows) = true := by decide +kernel
theorem sc_sight_rows : FnScope nm_sight_rows pr_sight_rows (defScope st_sight_rows) := ⟨rfl, rfl, rfl, by decide +kernel, rfl, by decide +kernel, by decide +kernel⟩
theorem ck_numbered : chkSs gn nm_numbered ir_numbered (defScope st_numbered) (defBody st_numbered) = true := by decide +kernel
theorem sc_numbered : FnScope nm_numbered pr_numbered (defScope st_numbered) := ⟨rfl, rfl, rfl, by decide +kernel, rfl, by decide +kernel, by decide +kernel⟩
theorem ck_next_numbers : chkSs gn nm_next_numbers ir_next_numbers (defScope st_next_numbers) (defBody st_next_numbers) = true := by decide +kernel
theorem sc_next_numbers : FnScope nm_next_numbers pr_next_numbers (defScope st_next_numbers) := ⟨rfl, rfl, rfl, by decide +kernel, rfl, by decide +kernel, by decide +kernel⟩
theorem ck_stages : chkSs gn nm_stages ir_stages (defScope st_stages) (defBody st_stages) = true := by decide +kernel
theorem sc_stages : FnScope nm_stages pr_stages (defScope st_stages) := ⟨rfl, rfl, rfl, by decide +kernel, rfl, by decide +kernel, by decide +kernel⟩
theorem ck_law_box : chkSs gn nm_law_box ir_law_box (defScope st_law_box) (defBody st_law_box) = true := by decide +kernel
theorem sc_law_box : FnScope nm_law_box pr_law_box (defScope st_law_box) := ⟨rfl, rfl, rfl, by decide +kernel, rfl, by decide +kernel, by decide +kernel⟩
theorem ck_law_take : chkSs gn nm_law_take ir_law_take (defScope st_law_take) (defBody st_law_take) = true := by decide +kernel
theorem sc_law_take : FnScope nm_law_take pr_law_take (defScope st_law_take) := ⟨rfl, rfl, rfl, by decide +kernel, rfl, by decide +kernel, by decide +kernel⟩
theorem ck_law_word : chkSs gn nm_law_word ir_law_word (defScope st_law_word) (defBody st_law_word) = true := by decide +kernel
theorem sc_law_word : FnScope nm_law_word pr_law_word (defScope st_law_word) := ⟨rfl, rfl, rfl, by decide +kernel, rfl, by decide +kernel, by decide +kernel⟩
theorem ck_law_words : chkSs gn nm_law_words ir_law_words (defScope st_law_words) (defBody st_law_words) = true := by decide +kernel
theorem sc_law_words : FnScope nm_law_words pr_law_words (defScope st_law_words) := ⟨rfl, rfl, rfl, by decide +kernel, rfl, by decide +kernel, by decide +kernel⟩
theorem ck_law_given : chkSs gn nm_law_given ir_law_given (defScope st_law_given) (defBody st_law_given) = true := by decide +kernel
theorem sc_law_given : FnScope nm_law_given pr_law_given (defScope st_law_given) := ⟨rfl, rfl, rfl, by decide +kernel, rfl, by decide +kernel, by decide +kernel⟩
theorem ck_law_rows : chkSs gn nm_law_rows ir_law_rows (defScope st_law_rows) (defBody st_law_rows) = true := by decide +kernel
theorem sc_law_rows : FnScope nm_law_rows pr_law_rows (defScope st_law_rows) := ⟨rfl, rfl, rfl, by decide +kernel, rfl, by decide +kernel, by decide +kernel⟩
theorem ck_law_made : chkSs gn nm_law_made ir_law_made (defScope st_law_made) (defBody st_law_made) = true := by decide +kernel
theorem sc_law_made : FnScope nm_law_made pr_law_made (defScope st_law_made) := ⟨rfl, rfl, rfl, by decide +kernel, rfl, by decide +kernel, by decide +kernel⟩
theorem ck_law_chain : chkSs gn nm_law_chain ir_law_chain (defScope st_law_chain) (defBody st_law_chain) = true := by decide +kernel
theorem sc_law_chain : FnScope nm_law_chain pr_law_chain (defScope st_law_chain) := ⟨rfl, rfl, rfl, by decide +kernel, rfl, by decide +kernel, by decide +kernel⟩
theorem ck_law_broad : chkSs gn nm_law_broad ir_law_broad (defScope st_law_broad) (defBody st_law_broad) = true := by decide +kernel
theorem sc_law_broad : FnScope nm_law_broad pr_law_broad (defScope st_law_broad) := ⟨rfl, rfl, rfl, by decide +kernel, rfl, by decide +kernel, by decide +kernel⟩
theorem ck_law_drawn : chkSs gn nm_law_drawn ir_law_drawn (defScope st_law_drawn) (defBody st_law_drawn) = true := by decide +kernel
theorem sc_law_drawn : FnScope nm_law_drawn pr_law_drawn (defScope st_law_drawn) := ⟨rfl, rfl, rfl, by decide +kernel, rfl, by decide +kernel, by decide +kernel⟩
theorem ck_law_numbered : chkSs gn nm_law_numbered ir_law_numbered (defScope st_law_numbered) (defBody st_law_numbered) = true := by decide +kernel
theorem sc_law_numbered : FnScope nm_law_numbered pr_law_numbered (defScope st_law_numbered) := ⟨rfl, rfl, rfl, by decide +kernel, rfl, by decide +kernel, by decide +kernel⟩
theorem ck_law_looks : chkSs gn nm_law_looks ir_law_looks (defScope st_law_looks) (defBody st_law_looks) = true := by decide +kernel
theorem sc_law_looks : FnScope nm_law_looks pr_law_looks (defScope st_law_looks) := ⟨rfl, rfl, rfl, by decide +kernel, rfl, by decide +kernel, by decide +kernel⟩
theorem ck_law_due : chkSs gn nm_law_due ir_law_due (defScope st_law_due) (defBody st_law_due) = true := by decide +kernel
theorem sc_law_due : FnScope nm_law_due pr_law_due (defScope st_law_due) := ⟨rfl, rfl, rfl, by decide +kernel, rfl, by decide +kernel, by decide +kernel⟩
theorem ck_law_is_rows : chkSs gn nm_law_is_rows ir_law_is_rows (defScope st_law_is_rows) (defBody st_law_is_rows) = true := by decide +kernel
theorem sc_law_is_rows : FnScope nm_law_is_rows pr_law_is_rows (defScope st_law_is_rows) := ⟨rfl, rfl, rfl, by decide +kernel, rfl, by decide +kernel, by decide +kernel⟩
theorem ck_law_turned : chkSs gn nm_law_turned ir_law_turned (defScope st_law_turned) (defBody st_law_turned) = true := by decide +kernel
theorem sc_law_turned : FnScope nm_law_turned pr_law_turned (defScope st_law_turned) := ⟨rfl, rfl, rfl, by decide +kernel, rfl, by decide +kernel, by decide +kernel⟩
theorem ck_law_others : chkSs gn nm_law_others ir_law_others (defScope st_law_others) (defBody st_law_others) = true := by decide +kernel
theorem sc_law_others : FnScope nm_law_others pr_law_others (defScope st_law_others) := ⟨rfl, rfl, rfl, by decide +kernel, rfl, by decide +kernel, by decide +kernel⟩
theorem ck_law_small_ones : chkSs gn nm_law_small_ones ir_law_small_ones (defScope st_law_small_ones) (defBody st_law_small_ones) = true := by decide +kernel
theorem sc_law_small_ones : FnScope nm_law_small_ones pr_law_small_ones (defScope st_law_small_ones) := ⟨rfl, rfl, rfl, by decide +kernel, rfl, by decide +kernel, by decide +kernel⟩
theorem ck_law : chkSs gn nm_law ir_law (defScope st_law) (defBody st_law) = true := by decide +kernel
theorem sc_law : FnScope nm_law pr_law (defScope st_law) := ⟨rfl, rfl, rfl, by decide +kernel, rfl, by decide +kernel, by decide +kernel⟩
theorem ck_Model_init : chkSs gn nm_Model_init ir_Model_init (defScope st_Model_init) (defBody st_Model_init) = true := by decide +kernel
theorem sc_Model_init : FnScope nm_Model_init pr_Model_init (defScope st_Model_init) := ⟨rfl, rfl, rfl, by decide +kernel, rfl, by decide +kernel, by decide +kernel⟩
theorem ck_Model_arrows : chkSs gn nm_Model_arrows ir_Model_arrows (defScope st_Model_arrows) (defBody st_Model_arrows) = true := by decide +kernel
theorem sc_Model_arrows : FnScope nm_Model_arrows pr_Model_arrows (defScope st_Model_arrows) := ⟨rfl, rfl, rfl, by decide +kernel, rfl, by decide +kernel, by decide +kernel⟩
theorem ck_Model_marked : chkSs gn nm_Model_marked ir_Model_marked (defScope st_Model_marked) (defBody st_Model_marked) = true := by decide +kernel
theorem sc_Model_marked : FnScope nm_Model_marked pr_Model_marked (defScope st_Model_marked) := ⟨rfl, rfl, rfl, by decide +kernel, rfl, by decide +kernel, by decide +kernel⟩
theorem ck_Model_plain : chkSs gn nm_Model_plain ir_Model_plain (defScope st_Model_plain) (defBody st_Model_plain) = true := by decide +kernel
theorem sc_Model_plain : FnScope nm_Model_plain pr_Model_plain (defScope st_Model_plain) := ⟨rfl, rfl, rfl, by decide +kernel, rfl, by decide +kernel, by decide +kernel⟩
end K22
namespace K22
open PySem PySem.Spec PyProof.Rows L2 Mm
/-- the box at b: kept numbers at kp, small ones, a count at c -/
def Bx (b kp c : Addr) (S : Sto) (n : Int) : Prop := ∃ (kept sm : List Int) (cnt : Int), S b = some (.lst [.ref kp, .lst (sm.map .int), .ref c]) ∧ S kp = some (.lst (kept.map .int)) ∧ S c = some (.lst [.int cnt]) ∧
  0 ≤ cnt ∧ cnt ≤ n ∧ kept.length = sm.length ∧ 0 < sm.length ∧ sm.length ≤ 63 ∧ (∀ x ∈ sm, 0 ≤ x ∧ x < 2 ^ 31) ∧ b ≠ kp ∧ b ≠ c ∧ kp ≠ c
def spTake : FS := ⟨2, fun us S R _ => ∃ b kp c many n, us = [.ref b, .int many] ∧ Bx b kp c S n ∧ n < 2 ^ 30 ∧ 0 < many ∧ many < 2 ^ 30 ∧ ∀ r S', 0 ≤ r → r < many → Bx b kp c S' (n + 1) → Kp [kp, c] S S' → R (.int r) S'⟩
theorem atI_map {xs : List Int} {i : Int} (h0 : 0 ≤ i) (h : i < xs.length) : ∃ x, x ∈ xs ∧ L2.atI (xs.map U.int) i = some (.int x) := by
  obtain ⟨u, h1, h2⟩ := at_in h0 h
  refine ⟨u, List.mem_of_getElem? h2, ?_⟩
  rw [at_nat h0, List.getElem?_map, h2]; rfl
theorem ixN_in {n : Nat} {i : Int} (h0 : 0 ≤ i) (h : i < n) : ixN n i = some i.toNat := by
  unfold ixN; rw [if_pos h0, if_pos h]
theorem body_take (G : GV) (mG : GMono G) : ∀ us S R RX, us.length = pr_law_take.length → spTake.sp us S R RX → wCms G (fun x _ S' => RX x S') ir_law_take (startU nm_law_take us) S { nx := fun _ S' => R .non S', rt := R } := by
  rintro us S R RX - ⟨b, kp, c, many, n, rfl, ⟨kept, sm, cnt, hb, hk, hc, h0, h1, h2, h3, h4, h5, n1, n2, n3⟩, hn, hm0, hm, k⟩
  have e0 : startU nm_law_take [.ref b, .int many] = [some (.ref b), some (.int many), none, none, none, none] := rfl
  rw [e0]
  unfold ir_law_take
  refine run_cons ?_
  dsimp! [hb, hc]
  refine run_cons ?_
  dsimp! [hb, hc]
  refine run_cons ?_
  have nbc : b ≠ c := n2
  dsimp! [Sto.put_ne n2, hb, List.length_map]
  refine ⟨by omega, ?_⟩
  have i0 : 0 ≤ cnt % (sm.length : Int) := Int.emod_nonneg _ (by omega)
  have i1 : cnt % (sm.length : Int) < sm.length := Int.emod_lt_of_pos _ (by omega)
  obtain ⟨rest, hr1, hr2⟩ := atI_map (xs := kept) i0 (by omega)
  obtain ⟨seed, hs1, hs2⟩ := atI_map (xs := sm) i0 (by omega)
  obtain ⟨q0, q1⟩ := h5 seed hs1
  have nkc : kp ≠ c := n3
  refine run_cons ?_
  dsimp! [Sto.put_ne n2, Sto.put_ne n3, hb, hk, hr2]
  have put1 : Kp [kp, c] S (S.put c (.lst [.int (cnt + 1)])) := Kp.refl.put (.inr (by simp))
  have fin0 : ∀ r, 0 ≤ r → r < many → R (.int r) (S.put c (.lst [.int (cnt + 1)])) := fun r a1 a2 => by
    refine k r _ a1 a2 ⟨kept, sm, cnt + 1, (Sto.put_ne n2).trans hb, (Sto.put_ne n3).trans hk, Sto.put_same, by omega, by omega, h2, h3, h4, h5, n1, n2, n3⟩ put1
  refine run_cons ?_
  dsimp!
  refine ite2 (fun hpos => ?_) (fun hpos => ?_)
  · refine run_cons ?_
    dsimp! [Sto.put_ne n2, Sto.put_ne n3, hb, hk, hr2]
    refine ⟨⟨hm0, hm⟩, ?_⟩
    refine ⟨_, ixN_in i0 (by simp; omega), ?_⟩
    refine run_cons ?_
    dsimp!
    refine ⟨hm0, ?_⟩
    refine k _ _ (Int.emod_nonneg _ (by omega)) (Int.emod_lt_of_pos _ hm0) ⟨kept.set (cnt % (sm.length : Int)).toNat (rest / many), sm, cnt + 1, ?_, ?_, ?_, by omega, by omega, by simpa using h2, h3, h4, h5, n1, n2, n3⟩ (put1.put (.inr (by simp)))
    · rw [Sto.put_ne n1, Sto.put_ne n2, hb]
    · rw [Sto.put_same, List.map_set]
    · rw [Sto.put_ne (Ne.symm n3), Sto.put_same]
  refine run_nil ?_
  refine run_cons ?_
  dsimp! [Sto.put_ne n2, hb, hs2]
  refine ⟨.inr (.inl (by omega)), .inr (.inl (by omega)), by omega, ?_⟩
  refine run_cons ?_
  dsimp!
  generalize hx1 : (seed * 48271 + cnt * 69621 + 12345) % 2147483647 = x1
  have b1 : 0 ≤ x1 ∧ x1 < 2147483647 := ⟨by rw [← hx1]; exact Int.emod_nonneg _ (by omega), by rw [← hx1]; exact Int.emod_lt_of_pos _ (by omega)⟩
  refine ⟨.inl (by omega), .inl (by omega), by omega, ?_⟩
  refine run_cons ?_
  dsimp!
  generalize hx2 : (x1 * (x1 + 31 * cnt + 7)) % 2147483629 = x2
  have b2 : 0 ≤ x2 ∧ x2 < 2147483629 := ⟨by rw [← hx2]; exact Int.emod_nonneg _ (by omega), by rw [← hx2]; exact Int.emod_lt_of_pos _ (by omega)⟩
  refine ⟨.inl (by omega), .inl (by omega), by omega, ?_⟩
  refine run_cons ?_
  dsimp!
  refine ⟨⟨by omega, by omega⟩, hm0, ?_⟩
  exact fin0 _ (Int.emod_nonneg _ (by omega)) (Int.emod_lt_of_pos _ hm0)
/-- a draw -/
theorem take_ok {S : Sto} {R : Post} {RX : Xn → Sto → Prop} {b kp c : Addr} {many n : Int} (hb : Bx b kp c S n) (hn : n < 2 ^ 30) (h0 : 0 < many) (h1 : many < 2 ^ 30) (k : ∀ r S', 0 ≤ r → r < many → Bx b kp c S' (n + 1) → Kp [kp, c] S S' → R (.int r) S') :
    [U.ref b, .int many].length = spTake.n ∧ spTake.sp [.ref b, .int many] S R RX := ⟨rfl, b, kp, c, many, n, rfl, hb, hn, h0, h1, k⟩
theorem Bx.kp {b kp c : Addr} {S S' : Sto} {n : Int} (h : Bx b kp c S n) (e : ∀ a o, S a = some o → S' a = some o) : Bx b kp c S' n := by
  obtain ⟨kept, sm, cnt, hb, hk, hc, r⟩ := h
  exact ⟨kept, sm, cnt, e _ _ hb, e _ _ hk, e _ _ hc, r⟩
theorem Bx.mono {b kp c : Addr} {S : Sto} {n m : Int} (h : Bx b kp c S n) (l : n ≤ m) : Bx b kp c S m := by
  obtain ⟨kept, sm, cnt, hb, hk, hc, h1, h2, r⟩ := h
  exact ⟨kept, sm, cnt, hb, hk, hc, h1, by omega, r⟩
theorem Bx.put {b kp c p : Addr} {S : Sto} {n : Int} {o : Ob} (h : Bx b kp c S n) (e : p ≠ b ∧ p ≠ kp ∧ p ≠ c) : Bx b kp c (S.put p o) n := by
  obtain ⟨kept, sm, cnt, hb, hk, hc, r⟩ := h
  exact ⟨kept, sm, cnt, (Sto.put_ne (Ne.symm e.1)).trans hb, (Sto.put_ne (Ne.symm e.2.1)).trans hk, (Sto.put_ne (Ne.symm e.2.2)).trans hc, r⟩
theorem Bx.del {b kp c p : Addr} {S : Sto} {n : Int} (h : Bx b kp c S n) (e : p ≠ b ∧ p ≠ kp ∧ p ≠ c) : Bx b kp c (S.del p) n := by
  obtain ⟨kept, sm, cnt, hb, hk, hc, r⟩ := h
  exact ⟨kept, sm, cnt, (Sto.del_ne (Ne.symm e.1)).trans hb, (Sto.del_ne (Ne.symm e.2.1)).trans hk, (Sto.del_ne (Ne.symm e.2.2)).trans hc, r⟩
/-- a new thing is none of the box's -/
theorem Bx.new {b kp c p : Addr} {S : Sto} {n : Int} (h : Bx b kp c S n) (e : S p = none) : p ≠ b ∧ p ≠ kp ∧ p ≠ c := by
  obtain ⟨kept, sm, cnt, hb, hk, hc, _⟩ := h
  refine ⟨?_, ?_, ?_⟩
  · intro z; rw [z, hb] at e; cases e
  · intro z; rw [z, hk] at e; cases e
  · intro z; rw [z, hc] at e; cases e
end K22
namespace K22
open PySem PySem.Spec PyProof.Rows L2 Mm
theorem ints_map {ns : List Int} {i : Nat} {x : U} (h : (ns.map U.int)[i]? = some x) : ∃ z, ns[i]? = some z ∧ x = .int z := by
  rw [List.getElem?_map, Option.map_eq_some_iff] at h
  obtain ⟨z, h1, h2⟩ := h
  exact ⟨z, h1, h2.symm⟩
theorem strs_map {ns : List (List Nat)} {i : Nat} {x : U} (h : (ns.map U.str)[i]? = some x) : ∃ z, ns[i]? = some z ∧ x = .str z := by
  rw [List.getElem?_map, Option.map_eq_some_iff] at h
  obtain ⟨z, h1, h2⟩ := h
  exact ⟨z, h1, h2.symm⟩
theorem dat_ints (g : List Int) : datas (g.map .int) = true := by induction g with | nil => rfl | cons x g ih => simp [datas, U.data, ih]
theorem dep_ints (g : List Int) : deps (g.map .int) = 0 := by induction g with | nil => rfl | cons x g ih => simp [deps, U.dep, ih]
theorem eqb_ints (g : List Int) : eqable (.lst (g.map .int)) := ⟨dat_ints g, by simp [U.dep, dep_ints]⟩
theorem seq_ref {S : Sto} {p : Addr} {xs : List U} (h : S p = some (.lst xs)) : seqOf S (.ref p) = some xs := by simp [seqOf, lisOf, lstOf, h]
/-- the law's box -/
def spBox : FS := ⟨1, fun us S R _ => ∃ ns : List Int, us = [.ls (ns.map .int)] ∧ ns.length ≤ 63 ∧ ∀ b kp c S', Bx b kp c S' 0 → Kp [] S S' → R (.ref b) S'⟩
theorem body_box (G : GV) (mG : GMono G) : ∀ us S R RX, us.length = pr_law_box.length → spBox.sp us S R RX → wCms G (fun x _ S' => RX x S') ir_law_box (startU nm_law_box us) S { nx := fun _ S' => R .non S', rt := R } := by
  rintro us S R RX - ⟨ns, rfl, hl, k⟩
  have e0 : startU nm_law_box [.ls (ns.map .int)] = [some (.ls (ns.map .int)), none, none, none] := rfl
  rw [e0]
  unfold ir_law_box
  refine run_cons ?_
  dsimp! [n_al1]
  intro p hp
  refine run_cons ?_
  dsimp! [n_al1]
  intro q hq
  have hqp : q ≠ p := fun z => by rw [z, Sto.put_same] at hq; cases hq
  rw [Sto.put_ne hqp] at hq
  refine cut mG (fun ρ' S' => ∃ (x : Option U) (kept sm : List Int), ρ' = [some (.ls (ns.map .int)), some (.ref p), some (.ref q), x] ∧ Kp [] S S' ∧ S' p = some (.lst (kept.map .int)) ∧ S' q = some (.lst (sm.map .int)) ∧ kept.length = sm.length ∧ sm.length ≤ 63 ∧ ∀ x ∈ sm, 0 ≤ x ∧ x < 2 ^ 31) ?_ ?_
  · dsimp!
    rw [show (63 : Int) = ((63 : Nat) : Int) from rfl, cut_to, ← List.map_take]
    refine for_inv mG (fun i ρ' S' => ∃ (x : Option U) (kept sm : List Int), ρ' = [some (.ls (ns.map .int)), some (.ref p), some (.ref q), x] ∧ Kp [] S S' ∧ S' p = some (.lst (kept.map .int)) ∧ S' q = some (.lst (sm.map .int)) ∧ kept.length = i ∧ sm.length = i ∧ ∀ x ∈ sm, 0 ≤ x ∧ x < 2 ^ 31)
      ⟨_, [], [], rfl, (Kp.refl.put (.inl hp)).put (.inl hq), by rw [Sto.put_ne (Ne.symm hqp)]; exact Sto.put_same, Sto.put_same, rfl, rfl, by simp⟩ ?_ ?_
    · rintro i x ρ' S' hx ⟨y, kept, sm, rfl, kp', h1, h2, h3, h4, h5⟩
      obtain ⟨z, hz, rfl⟩ := ints_map hx
      have hi : i < 63 := by
        have := (List.getElem?_eq_some_iff.mp hz).1
        simp at this; omega
      refine ⟨trivial, ?_⟩
      dsimp!
      have hpq : p ≠ q := Ne.symm hqp
      have go : ∀ t : Int, wCms G (fun x _ S' => RX x S') (Cms.cons (Cm.ex (E.meth Mth.append (E.var 2) (Es.cons (E.bin Bop.mod false (E.blt Blt.int (Es.cons (E.var 3) Es.nil)) (E.lit (U.int 2147483647))) Es.nil))) Cms.nil) [some (.ls (ns.map .int)), some (.ref p), some (.ref q), some (.int z)] (S'.put p (.lst (kept.map .int ++ [.int t])))
          { nx := fun ρ' S' => ∃ (x : Option U) (kept sm : List Int), ρ' = [some (.ls (ns.map .int)), some (.ref p), some (.ref q), x] ∧ Kp [] S S' ∧ S' p = some (.lst (kept.map .int)) ∧ S' q = some (.lst (sm.map .int)) ∧ kept.length = i + 1 ∧ sm.length = i + 1 ∧ ∀ x ∈ sm, 0 ≤ x ∧ x < 2 ^ 31, rt := R, bk := fun ρ' S' => ∃ (x : Option U) (kept sm : List Int), ρ' = [some (.ls (ns.map .int)), some (.ref p), some (.ref q), x] ∧ Kp [] S S' ∧ S' p = some (.lst (kept.map .int)) ∧ S' q = some (.lst (sm.map .int)) ∧ kept.length = sm.length ∧ sm.length ≤ 63 ∧ ∀ x ∈ sm, 0 ≤ x ∧ x < 2 ^ 31,
            ct := fun ρ' S' => ∃ (x : Option U) (kept sm : List Int), ρ' = [some (.ls (ns.map .int)), some (.ref p), some (.ref q), x] ∧ Kp [] S S' ∧ S' p = some (.lst (kept.map .int)) ∧ S' q = some (.lst (sm.map .int)) ∧ kept.length = i + 1 ∧ sm.length = i + 1 ∧ ∀ x ∈ sm, 0 ≤ x ∧ x < 2 ^ 31 } := by
        intro t
        refine run_cons ?_
        dsimp! [Sto.put_ne hqp, h2]
        refine ⟨by omega, ?_, ?_⟩
        · simp; rw [sizeLine_eq]; omega
        refine run_nil ⟨_, kept ++ [t], sm ++ [z % 2147483647], rfl, (kp'.put (.inl hp)).put (.inl hq), ?_, ?_, by simp; omega, by simp; omega, ?_⟩
        · rw [Sto.put_ne hpq, Sto.put_same]; simp
        · rw [Sto.put_same]; simp
        · intro x hx
          rcases List.mem_append.mp hx with hx | hx
          · exact h5 x hx
          · rw [List.mem_singleton.mp hx]
            have := Int.emod_nonneg z (b := 2147483647) (by omega)
            have := Int.emod_lt_of_pos z (b := 2147483647) (by omega)
            omega
      refine run_cons ?_
      dsimp! [h1]
      refine ⟨by decide, ?_⟩
      refine ite2 (fun _ => ⟨by simp; rw [sizeLine_eq]; omega, go _⟩) (fun _ => ⟨by simp; rw [sizeLine_eq]; omega, go _⟩)
    · rintro ρ' S' ⟨x, kept, sm, rfl, kp', h1, h2, h3, h4, h5⟩
      refine ⟨trivial, x, kept, sm, rfl, kp', h1, h2, by omega, ?_, h5⟩
      rw [h4]; simp; omega
  rintro ρ' S' ⟨x, kept, sm, rfl, kp', h1, h2, h3, h4, h5⟩
  refine cut mG (fun ρ' S' => ∃ (x : Option U) (kept sm : List Int) (p q : Addr), ρ' = [some (.ls (ns.map .int)), some (.ref p), some (.ref q), x] ∧ p ≠ q ∧ S p = none ∧ S q = none ∧ Kp [] S S' ∧ S' p = some (.lst (kept.map .int)) ∧ S' q = some (.lst (sm.map .int)) ∧ kept.length = sm.length ∧ 0 < sm.length ∧ sm.length ≤ 63 ∧ ∀ x ∈ sm, 0 ≤ x ∧ x < 2 ^ 31) ?_ ?_
  · dsimp! [n_eq]
    refine eq_ref h2 (eqb_ints sm) eqable0 ?_
    have e : ueq (.lst (sm.map .int)) (.lst []) = sm.isEmpty := by cases sm <;> rfl
    rw [e]
    refine ite2 (fun hs => ?_) (fun hs => run_nil ?_)
    · refine run_cons ?_
      dsimp! [n_al1]
      intro p2 hp2
      refine run_cons ?_
      dsimp! [n_al1]
      intro q2 hq2
      have ne : q2 ≠ p2 := fun z => by rw [z, Sto.put_same] at hq2; cases hq2
      rw [Sto.put_ne ne] at hq2
      have f1 : S p2 = none := kp'.fresh (by simp) hp2
      have f2 : S q2 = none := kp'.fresh (by simp) hq2
      refine run_nil ⟨x, [0], [0], p2, q2, rfl, Ne.symm ne, f1, f2, (kp'.put (.inl f1)).put (.inl f2), ?_, Sto.put_same, rfl, by simp, by simp, by simp⟩
      rw [Sto.put_ne (Ne.symm ne)]; exact Sto.put_same
    · refine ⟨x, kept, sm, p, q, rfl, Ne.symm hqp, hp, hq, kp', h1, h2, h3, ?_, h4, h5⟩
      cases sm with
      | nil => simp at hs
      | cons _ _ => simp
  rintro ρ' S' ⟨x, kept, sm, p, q, rfl, npq, fp, fq, kp', h1, h2, h3, h6, h4, h5⟩
  refine run_cons ?_
  dsimp! [h2, n_al1]
  intro c hc b hb
  have ncq : c ≠ q ∨ c = q := by by_cases h : c = q <;> simp [h]
  have hpd : (S'.del q) p = some (.lst (kept.map .int)) := (Sto.del_ne npq).trans h1
  have ncp : c ≠ p := fun z => by rw [z, hpd] at hc; cases hc
  have nbc : b ≠ c := fun z => by rw [z, Sto.put_same] at hb; cases hb
  rw [Sto.put_ne nbc] at hb
  have nbp : b ≠ p := fun z => by rw [z, hpd] at hb; cases hb
  have kd : Kp [] S (S'.del q) := kp'.del (.inl fq)
  have fc := kd.fresh (by simp) hc
  have fb := kd.fresh (by simp) hb
  refine k b p c _ ⟨kept, sm, 0, Sto.put_same, ?_, ?_, by omega, by omega, h3, h6, h4, h5, nbp, nbc, Ne.symm ncp⟩ ((kd.put (.inl fc)).put (.inl fb))
  · rw [Sto.put_ne (Ne.symm nbp), Sto.put_ne (Ne.symm ncp)]; exact hpd
  · rw [Sto.put_ne (Ne.symm nbc)]; exact Sto.put_same
end K22
namespace K22
open PySem PySem.Spec PyProof.Rows L2 Mm
def resv : List (List Nat) := [z_no, z_not, z_and, z_or, z_if, z_then, z_must, z_may]
def Low (w : List Nat) : Prop := ∀ c ∈ w, 97 ≤ c ∧ c ≤ 122
structure IsWord (w : List Nat) : Prop where
  low : Low w
  ne : 1 ≤ w.length
  le : w.length ≤ 11
  free : w ∉ resv
theorem abc {r : Int} (h0 : 0 ≤ r) (h : r < 26) : ∃ c, L2.atI z_abcdefghijklmnopqrstuvwxyz r = some c ∧ 97 ≤ c ∧ c ≤ 122 := by
  obtain ⟨u, h1, h2⟩ := at_in (xs := z_abcdefghijklmnopqrstuvwxyz) h0 (by simpa using h)
  refine ⟨u, h1, ?_⟩
  have : ∀ c ∈ z_abcdefghijklmnopqrstuvwxyz, 97 ≤ c ∧ c ≤ 122 := by decide
  exact this u (List.mem_of_getElem? h2)
theorem Low.app {w v : List Nat} (h : Low w) (h' : Low v) : Low (w ++ v) := fun c hc => (List.mem_append.mp hc).elim (h c) (h' c)
theorem Low.take {w : List Nat} (h : Low w) (n : Nat) : Low (w.take n) := fun c hc => h c (List.mem_of_mem_take hc)
theorem cut_m1 {α : Type} {xs : List α} : cutU xs none (some (-1)) = xs.take (xs.length - 1) := by
  unfold cutU
  rw [HT.sIx_none]
  have : HT.sIx xs.length xs.length (some (-1)) = xs.length - 1 := by
    unfold HT.sIx
    simp
    omega
  rw [this]; simp
theorem strs_flat (ts : List (List Nat)) : (ts.map U.str).all U.flat = true := by simp [U.flat]
theorem strs_any {w : List Nat} : ∀ ts : List (List Nat), ((ts.map U.str).any fun z => ueq z (.str w)) = decide (w ∈ ts)
  | [] => rfl
  | t :: ts => by
    rw [List.map_cons, List.any_cons, strs_any ts]
    show ((t == w) || _) = _
    by_cases e : t = w
    · simp [e]
    · have e' : w ≠ t := fun h => e h.symm
      simp [e, e']
theorem nin_strs {S : Sto} {y : U} {ts : List (List Nat)} {w : List Nat} {k : Bool → Prop} (hy : y = .lst (ts.map .str) ∨ y = .tup (ts.map .str) ∨ ∃ p, y = .ref p ∧ S p = some (.lst (ts.map .str))) (hk : k (!decide (w ∈ ts))) : copW .notin (.str w) y S k := by
  rcases hy with rfl | rfl | ⟨p, rfl, hp⟩
  · exact ⟨_, rfl, rfl, strs_flat ts, by rw [strs_any]; exact hk⟩
  · exact ⟨_, rfl, rfl, strs_flat ts, by rw [strs_any]; exact hk⟩
  · rw [n_nin]
    simp only [inW, hp]
    exact ⟨rfl, strs_flat ts, by rw [strs_any]; exact hk⟩
theorem rngU_length {lo : Int} {n : Nat} : (rngU lo n).length = n := by simp [rngU]
theorem rngU_at {lo : Int} {n i : Nat} {x : U} (h : (rngU lo n)[i]? = some x) : x = .int (lo + i) ∧ i < n := by
  have hi := (List.getElem?_eq_some_iff.mp h).1
  rw [rngU_length] at hi
  rw [rngU, List.getElem?_map, List.getElem?_range hi] at h
  cases h; exact ⟨rfl, hi⟩
def spWord : FS := ⟨2, fun us S R _ => ∃ b kp c n p, ∃ ts : List (List Nat), us = [.ref b, .ref p] ∧ Bx b kp c S n ∧ n < 2 ^ 29 ∧ S p = some (.lst (ts.map .str)) ∧ p ≠ kp ∧ p ≠ c ∧ ∀ w S', IsWord w → Bx b kp c S' (n + 12) → Kp [kp, c] S S' → R (.str w) S'⟩
theorem no_z : ∀ t ∈ resv, t.getLast? ≠ some 122 := by decide
theorem body_word (G : GV) (mG : GMono G) (h9 : G.fns[9]? = some spTake) : ∀ us S R RX, us.length = pr_law_word.length → spWord.sp us S R RX → wCms G (fun x _ S' => RX x S') ir_law_word (startU nm_law_word us) S { nx := fun _ S' => R .non S', rt := R } := by
  rintro us S R RX - ⟨b, kp, c, n, p, ts, rfl, hb, hn, hp, np1, np2, k⟩
  have e0 : startU nm_law_word [.ref b, .ref p] = [some (.ref b), some (.ref p), none, none, none, none] := rfl
  rw [e0]
  unfold ir_law_word
  refine run_cons ?_
  dsimp!
  refine run_cons ?_
  dsimp!
  refine cut mG (fun ρ' S' => ∃ (x : Option U) (w : List Nat), ρ' = [some (.ref b), some (.ref p), some (.str z_abcdefghijklmnopqrstuvwxyz), some (.str w), x, none] ∧ Bx b kp c S' (n + 12) ∧ Kp [kp, c] S S' ∧ Low w ∧ 1 ≤ w.length ∧ w.length ≤ 11) ?_ ?_
  · dsimp! [h9]
    refine take_ok hb (by omega) (by decide) (by decide) fun r0 S0 h0 h1 hb0 k0 => ?_
    dsimp!
    refine ⟨by omega, ?_⟩
    refine for_inv mG (fun i ρ' S' => ∃ (x : Option U) (w : List Nat), ρ' = [some (.ref b), some (.ref p), some (.str z_abcdefghijklmnopqrstuvwxyz), some (.str w), x, none] ∧ Bx b kp c S' (n + 1 + i) ∧ Kp [kp, c] S S' ∧ Low w ∧ w.length = i) ⟨_, [], rfl, by simpa using hb0, k0, by simp [Low], rfl⟩ ?_ ?_
    · rintro i x ρ' S' hx ⟨y, w, rfl, hb1, k1, hl, hw⟩
      obtain ⟨rfl, hi⟩ := rngU_at hx
      refine ⟨trivial, ?_⟩
      dsimp!
      refine run_cons ?_
      dsimp! [h9]
      refine take_ok hb1 (by omega) (by decide) (by decide) fun r S2 h2 h3 hb2 k2 => ?_
      obtain ⟨l, hl1, hl2⟩ := abc h2 h3
      dsimp! [hl1]
      refine ⟨by rw [sizeLine_eq]; omega, ?_⟩
      refine run_nil ⟨_, _, rfl, hb2.mono (by omega), k1.trans k2, hl.app (by simp [Low, hl2]), by simp [hw]⟩
    · rintro ρ' S' ⟨x, w, rfl, hb1, k1, hl, hw⟩
      rw [rngU_length] at hw hb1
      exact ⟨trivial, x, w, rfl, hb1.mono (by omega), k1, hl, by omega, by omega⟩
  rintro ρ' S1 ⟨x, w, rfl, hb1, k1, hl, hw1, hw2⟩
  have hp1 : S1 p = some (.lst (ts.map .str)) := k1 p _ hp (by simp [np1, np2])
  refine cut mG (fun ρ' S' => S' = S1 ∧ ∃ (x y : Option U) (w : List Nat), ρ' = [some (.ref b), some (.ref p), some (.str z_abcdefghijklmnopqrstuvwxyz), some (.str w), x, y] ∧ IsWord w) ?_ ?_
  · dsimp!
    refine for_inv mG (fun i ρ' S' => S' = S1 ∧ ∃ (x y : Option U) (w : List Nat), ρ' = [some (.ref b), some (.ref p), some (.str z_abcdefghijklmnopqrstuvwxyz), some (.str w), x, y] ∧ Low w ∧ 1 ≤ w.length ∧ w.length ≤ 11 ∧ (0 < i → w.getLast? = z_abcdefghijklmnopqrstuvwxyz[i - 1]?)) ⟨rfl, _, _, w, rfl, hl, hw1, hw2, by simp⟩ ?_ ?_
    · rintro i x ρ' S' hx ⟨rfl, y, z, w, rfl, hl, h1, h2, h3⟩
      change (z_abcdefghijklmnopqrstuvwxyz.map fun c => U.str [c])[i]? = some x at hx
      rw [List.getElem?_map, Option.map_eq_some_iff] at hx
      obtain ⟨l, hl1, rfl⟩ := hx
      have hlow : 97 ≤ l ∧ l ≤ 122 := (by decide : ∀ c ∈ z_abcdefghijklmnopqrstuvwxyz, 97 ≤ c ∧ c ≤ 122) l (List.mem_of_getElem? hl1)
      refine ⟨trivial, ?_⟩
      dsimp!
      have nxt : ∀ (D : Out), (∀ ρ' S2, (S2 = S' ∧ ∃ (x y : Option U) (w : List Nat), ρ' = [some (.ref b), some (.ref p), some (.str z_abcdefghijklmnopqrstuvwxyz), some (.str w), x, y] ∧ Low w ∧ 1 ≤ w.length ∧ w.length ≤ 11 ∧ (0 < i + 1 → w.getLast? = z_abcdefghijklmnopqrstuvwxyz[i + 1 - 1]?)) → D.nx ρ' S2) →
          wCms G (fun x _ S' => RX x S') (Cms.cons (Cm.set 3 (E.bin Bop.add false (E.slc false (E.var 3) O.no (O.so (E.neg (E.lit (U.int 1))))) (E.var 5))) Cms.nil) [some (.ref b), some (.ref p), some (.str z_abcdefghijklmnopqrstuvwxyz), some (.str w), y, some (.str [l])] S' D := by
        intro D hD
        refine run_cons ?_
        dsimp! [cut_m1]
        refine ⟨by rw [sizeLine_eq]; omega, by simp; rw [sizeLine_eq]; omega, ?_⟩
        refine run_nil (hD _ _ ⟨rfl, _, _, _, rfl, (hl.take _).app (by simp [Low, hlow]), by simp, by simp; omega, fun _ => ?_⟩)
        rw [Nat.add_sub_cancel, hl1]; simp
      refine run_cons ?_
      dsimp!
      refine nin_strs (.inr (.inr ⟨p, rfl, hp1⟩)) ?_
      refine ite2 (fun a1 => ?_) (fun a1 => ?_)
      · refine nin_strs (ts := resv) (.inr (.inl rfl)) ?_
        refine ite2 (fun a2 => ?_) (fun a2 => ?_)
        · refine run_cons ⟨rfl, _, _, w, rfl, hl, h1, h2, by simpa using a2⟩
        · exact run_nil (nxt _ fun ρ' S' h => h)
      · exact run_nil (nxt _ fun ρ' S' h => h)
    · rintro ρ' S' ⟨rfl, y, z, w, rfl, hl, h1, h2, h3⟩
      refine ⟨trivial, rfl, _, _, w, rfl, hl, h1, h2, fun hm => no_z w hm ?_⟩
      have := h3 (by decide)
      rw [this]; rfl
  rintro ρ' S' ⟨rfl, y, z, w, rfl, hw⟩
  refine run_cons ?_
  dsimp!
  exact k w _ hw hb1 k1
end K22
namespace K22
open PySem PySem.Spec PyProof.Rows L2 Mm
theorem word_ok {S : Sto} {R : Post} {RX : Xn → Sto → Prop} {b kp c p : Addr} {n : Int} {ts : List (List Nat)} (hb : Bx b kp c S n) (hn : n < 2 ^ 29) (hp : S p = some (.lst (ts.map .str))) (n1 : p ≠ kp) (n2 : p ≠ c) (k : ∀ w S', IsWord w → Bx b kp c S' (n + 12) → Kp [kp, c] S S' → R (.str w) S') :
    [U.ref b, .ref p].length = spWord.n ∧ spWord.sp [.ref b, .ref p] S R RX := ⟨rfl, b, kp, c, n, p, ts, rfl, hb, hn, hp, n1, n2, k⟩
/-- a name of arrows -/
def IsName (w : List Nat) : Prop := w = z_if ∨ IsWord w
theorem _root_.Mm.Kp.at {X : List Addr} {S S' : Sto} {p : Addr} {o : Ob} (h : Kp X S S') (e : S p = some o) (m : p ∉ X) : S' p = some o := h p o e m
def spWords : FS := ⟨1, fun us S R _ => ∃ b kp c n, us = [.ref b] ∧ Bx b kp c S n ∧ n < 2 ^ 28 ∧ ∀ (ns as : List (List Nat)) S', ns ≠ [] → ns.length ≤ 3 → as.length ≤ 3 → (∀ w ∈ ns, IsName w) → (∀ w ∈ as, IsWord w) → Bx b kp c S' (n + 100) → Kp [kp, c] S S' → R (.lst [.lst (ns.map .str), .lst (as.map .str)]) S'⟩
theorem body_words (G : GV) (mG : GMono G) (h9 : G.fns[9]? = some spTake) (h10 : G.fns[10]? = some spWord) : ∀ us S R RX, us.length = pr_law_words.length → spWords.sp us S R RX → wCms G (fun x _ S' => RX x S') ir_law_words (startU nm_law_words us) S { nx := fun _ S' => R .non S', rt := R } := by
  rintro us S R RX - ⟨b, kp, c, n, rfl, hb, hn, k⟩
  have e0 : startU nm_law_words [.ref b] = [some (.ref b), none, none, none] := rfl
  rw [e0]
  unfold ir_law_words
  refine run_cons ?_
  dsimp! [n_al1]
  intro p hp
  obtain ⟨p1, p2, p3⟩ := hb.new hp
  refine cut mG (fun ρ' S' => ∃ (x : Option U) (ns : List (List Nat)), ρ' = [some (.ref b), some (.ref p), x, none] ∧ S' p = some (.lst (ns.map .str)) ∧ Bx b kp c S' (n + 40) ∧ Kp [kp, c] S S' ∧ 1 ≤ ns.length ∧ ns.length ≤ 3 ∧ ∀ w ∈ ns, IsWord w) ?_ ?_
  · dsimp! [h9]
    refine take_ok (hb.put ⟨p1, p2, p3⟩) (by omega) (by decide) (by decide) fun r0 S0 h0 h1 hb0 k0 => ?_
    dsimp!
    refine ⟨by omega, ?_⟩
    refine for_inv mG (fun i ρ' S' => ∃ (x : Option U) (ns : List (List Nat)), ρ' = [some (.ref b), some (.ref p), x, none] ∧ S' p = some (.lst (ns.map .str)) ∧ Bx b kp c S' (n + 1 + 12 * i) ∧ Kp [kp, c] S S' ∧ ns.length = i ∧ ∀ w ∈ ns, IsWord w)
      ⟨_, [], rfl, k0.at Sto.put_same (by simp [p2, p3]), by simpa using hb0, (Kp.refl.put (.inl hp)).trans k0, rfl, by simp⟩ ?_ ?_
    · rintro i x ρ' S' hx ⟨y, ns, rfl, h2, h3, h4, h5, h6⟩
      obtain ⟨rfl, hi⟩ := rngU_at hx
      refine ⟨trivial, ?_⟩
      dsimp!
      refine run_cons ?_
      dsimp! [h2, h10]
      refine word_ok h3 (by omega) h2 p2 p3 fun w S2 a1 a2 a3 => ?_
      have h7 := a3.at h2 (by simp [p2, p3])
      dsimp! [h7]
      refine ⟨by simp; rw [sizeLine_eq]; omega, ?_⟩
      refine run_nil ⟨_, ns ++ [w], rfl, by rw [Sto.put_same]; simp, (a2.mono (by omega)).put ⟨p1, p2, p3⟩, (h4.trans a3).put (.inl hp), by simp [h5], ?_⟩
      intro v hv
      rcases List.mem_append.mp hv with hv | hv
      · exact h6 v hv
      · rw [List.mem_singleton.mp hv]; exact a1
    · rintro ρ' S' ⟨x, ns, rfl, h2, h3, h4, h5, h6⟩
      rw [rngU_length] at h5 h3
      exact ⟨trivial, _, ns, rfl, h2, h3.mono (by omega), h4, by omega, by omega, h6⟩
  rintro ρ' S1 ⟨x, ns, rfl, hp1, hb1, k1, l1, l2, hw⟩
  refine cut mG (fun ρ' S' => ∃ (ns : List (List Nat)), ρ' = [some (.ref b), some (.ref p), x, none] ∧ S' p = some (.lst (ns.map .str)) ∧ Bx b kp c S' (n + 41) ∧ Kp [kp, c] S S' ∧ ns ≠ [] ∧ ns.length ≤ 3 ∧ (∀ w ∈ ns, IsName w) ∧ ∀ w, ns[0]? = some w → w = z_if ∨ IsWord w) ?_ ?_
  · dsimp! [h9]
    refine take_ok hb1 (by omega) (by decide) (by decide) fun r0 S0 h0 h1 hb0 k0 => ?_
    have hp2 := k0.at hp1 (by simp [p2, p3])
    dsimp!
    cases ns with
    | nil => simp at l1
    | cons w0 ws =>
    refine ite2 (fun hr => ?_) (fun hr => run_nil ?_)
    · refine run_cons ?_
      dsimp! [hp2]
      refine run_nil ⟨z_if :: ws, rfl, by rw [Sto.put_same]; rfl, (hb0.mono (by omega)).put ⟨p1, p2, p3⟩, (k1.trans k0).put (.inl hp), by simp, by simpa using l2, ?_, fun w e => by simp at e; exact .inl e.symm⟩
      intro v hv
      rcases List.mem_cons.mp hv with rfl | hv
      · exact .inl rfl
      · exact .inr (hw v (List.mem_cons_of_mem _ hv))
    · exact ⟨w0 :: ws, rfl, hp2, hb0.mono (by omega), k1.trans k0, by simp, l2, fun w h => .inr (hw w h), fun w e => by simp at e; exact .inr (hw _ (by rw [← e]; exact List.mem_cons_self))⟩
  clear hp1 hb1 k1 l1 l2 hw
  rintro ρ' S1 ⟨ns, rfl, hp1, hb1, k1, l1, l2, hw, hw0⟩
  refine run_cons ?_
  dsimp! [n_al1]
  intro q hq
  obtain ⟨q1, q2, q3⟩ := hb1.new hq
  have fq : S q = none := k1.fresh (by simp [q2, q3]) hq
  have npq : p ≠ q := fun z => by rw [← z, hp1] at hq; cases hq
  refine cut mG (fun ρ' S' => ∃ (x : Option U) (as : List (List Nat)), ρ' = [some (.ref b), some (.ref p), x, some (.ref q)] ∧ S' p = some (.lst (ns.map .str)) ∧ S' q = some (.lst (as.map .str)) ∧ Bx b kp c S' (n + 100) ∧ Kp [kp, c] S S' ∧ as.length ≤ 3 ∧ ∀ w ∈ as, IsWord w) ?_ ?_
  · dsimp! [h9]
    refine take_ok (hb1.put ⟨q1, q2, q3⟩) (by omega) (by decide) (by decide) fun r0 S0 h0 h1 hb0 k0 => ?_
    dsimp!
    refine ⟨by omega, ?_⟩
    refine for_inv mG (fun i ρ' S' => ∃ (x : Option U) (as : List (List Nat)), ρ' = [some (.ref b), some (.ref p), x, some (.ref q)] ∧ S' p = some (.lst (ns.map .str)) ∧ S' q = some (.lst (as.map .str)) ∧ Bx b kp c S' (n + 42 + 13 * i) ∧ Kp [kp, c] S S' ∧ as.length = i ∧ ∀ w ∈ as, IsWord w)
      ⟨_, [], rfl, k0.at ((Sto.put_ne npq).trans hp1) (by simp [p2, p3]), k0.at Sto.put_same (by simp [q2, q3]), by simpa using hb0.mono (by omega), (k1.put (.inl fq)).trans k0, rfl, by simp⟩ ?_ ?_
    · rintro i x ρ' S' hx ⟨y, as, rfl, g1, h2, h3, h4, h5, h6⟩
      obtain ⟨rfl, hi⟩ := rngU_at hx
      refine ⟨trivial, ?_⟩
      dsimp!
      obtain ⟨w0, hw0'⟩ : ∃ w0, ns[0]? = some w0 := by
        cases ns with
        | nil => exact absurd rfl l1
        | cons w _ => exact ⟨w, rfl⟩
      have ix0 : L2.atI (ns.map U.str) 0 = some (.str w0) := by
        rw [at_nat (by omega), List.getElem?_map]
        show Option.map U.str ns[0]? = _
        rw [hw0']; rfl
      -- a word of its own
      have own : ∀ S2 m (D : Out), (∀ ρ' S', (∃ (x : Option U) (as : List (List Nat)), ρ' = [some (.ref b), some (.ref p), x, some (.ref q)] ∧ S' p = some (.lst (ns.map .str)) ∧ S' q = some (.lst (as.map .str)) ∧ Bx b kp c S' (n + 42 + 13 * (i + 1 : Nat)) ∧ Kp [kp, c] S S' ∧ as.length = i + 1 ∧ ∀ w ∈ as, IsWord w) → D.nx ρ' S') → Bx b kp c S2 m → m ≤ n + 43 + 13 * i → Kp [kp, c] S' S2 →
          wCms G (fun x _ S' => RX x S') (Cms.cons (Cm.ex (E.meth Mth.append (E.var 3) (Es.cons (E.call 10 (Es.cons (E.var 0) (Es.cons (E.var 3) Es.nil))) Es.nil))) Cms.nil) [some (.ref b), some (.ref p), some (.int (0 + i)), some (.ref q)] S2 D := by
        intro S2 m D hD c1 c2 c3
        have g2 := c3.at g1 (by simp [p2, p3])
        have g3 := c3.at h2 (by simp [q2, q3])
        refine run_cons ?_
        dsimp! [g3, h10]
        refine word_ok c1 (by omega) g3 q2 q3 fun w S3 a1 a2 a3 => ?_
        have g4 := a3.at g3 (by simp [q2, q3])
        have g5 := a3.at g2 (by simp [p2, p3])
        dsimp! [g4]
        refine ⟨by simp; rw [sizeLine_eq]; omega, ?_⟩
        refine run_nil (hD _ _ ⟨_, as ++ [w], rfl, (Sto.put_ne npq).trans g5, by rw [Sto.put_same]; simp, (a2.mono (by omega)).put ⟨q1, q2, q3⟩, ((h4.trans c3).trans a3).put (.inl fq), by simp [h5], ?_⟩)
        intro v hv
        rcases List.mem_append.mp hv with hv | hv
        · exact h6 v hv
        · rw [List.mem_singleton.mp hv]; exact a1
      refine run_cons ?_
      dsimp! [g1, ix0]
      refine ite2 (fun a1 => ?_) (fun a1 => own _ _ _ (fun _ _ h => h) h3 (by omega) Kp.refl)
      refine ite2 (fun a2 => ?_) (fun a2 => own _ _ _ (fun _ _ h => h) h3 (by omega) Kp.refl)
      dsimp! [h9]
      refine take_ok h3 (by omega) (by decide) (by decide) fun r S2 c0 c1 c2 c3 => ?_
      dsimp!
      refine ite2 (fun a3 => ?_) (fun a3 => own _ _ _ (fun _ _ h => h) c2 (by omega) c3)
      have g2 := c3.at g1 (by simp [p2, p3])
      have g3 := c3.at h2 (by simp [q2, q3])
      refine run_cons ?_
      dsimp! [g2, g3, ix0]
      refine ⟨by simp; rw [sizeLine_eq]; omega, ?_⟩
      have w0w : IsWord w0 := (hw0 w0 hw0').resolve_left (by simpa using a2)
      refine run_nil ⟨_, as ++ [w0], rfl, (Sto.put_ne npq).trans g2, by rw [Sto.put_same]; simp, (c2.mono (by omega)).put ⟨q1, q2, q3⟩, (h4.trans c3).put (.inl fq), by simp [h5], ?_⟩
      intro v hv
      rcases List.mem_append.mp hv with hv | hv
      · exact h6 v hv
      · rw [List.mem_singleton.mp hv]; exact w0w
    · rintro ρ' S' ⟨x, as, rfl, g1, h2, h3, h4, h5, h6⟩
      rw [rngU_length] at h5 h3
      exact ⟨trivial, _, as, rfl, g1, h2, h3.mono (by omega), h4, by omega, h6⟩
  rintro ρ' S2 ⟨x, as, rfl, g1, g2, g3, g4, g5, g6⟩
  refine run_cons ?_
  dsimp! [g1, Sto.del_ne (Ne.symm npq), g2]
  exact k ns as _ l1 l2 g5 hw g6 ((g3.del ⟨p1, p2, p3⟩).del ⟨q1, q2, q3⟩) ((g4.del (.inl hp)).del (.inl fq))
def Lo (w : List Nat) : Prop := ∀ c ∈ w, c < 1114112
theorem lo_ins {gs : List (List Nat)} {w : List Nat} {r : Nat} (h : ∀ g ∈ gs, Lo g) (hw : Lo w) : ∀ g ∈ gs.take r ++ [w] ++ gs.drop r, Lo g := by
  intro g hg
  rcases List.mem_append.mp hg with hg | hg
  · rcases List.mem_append.mp hg with hg | hg
    · exact h g (List.mem_of_mem_take hg)
    · rw [List.mem_singleton.mp hg]; exact hw
  · exact h g (List.mem_of_mem_drop hg)
def spGiven : FS := ⟨2, fun us S R _ => ∃ b kp c n, ∃ ws : List (List Nat), us = [.ref b, .lst (ws.map .str)] ∧ Bx b kp c S n ∧ n < 2 ^ 28 ∧ ws.length ≤ 3 ∧ (∀ w ∈ ws, Lo w) ∧ ∀ (gs : List (List Nat)) S', gs.length ≤ 4 → (∀ g ∈ gs, Lo g) → Bx b kp c S' (n + 10) → Kp [kp, c] S S' → R (.lst (gs.map .str)) S'⟩
theorem body_given (G : GV) (mG : GMono G) (h9 : G.fns[9]? = some spTake) : ∀ us S R RX, us.length = pr_law_given.length → spGiven.sp us S R RX → wCms G (fun x _ S' => RX x S') ir_law_given (startU nm_law_given us) S { nx := fun _ S' => R .non S', rt := R } := by
  rintro us S R RX - ⟨b, kp, c, n, ws, rfl, hb, hn, hws, hlo, k⟩
  have e0 : startU nm_law_given [.ref b, .lst (ws.map .str)] = [some (.ref b), some (.lst (ws.map .str)), none, none] := rfl
  rw [e0]
  unfold ir_law_given
  refine run_cons ?_
  dsimp! [n_al1]
  intro p hp
  obtain ⟨p1, p2, p3⟩ := hb.new hp
  have ins : ∀ (gs : List (List Nat)) (w : List Nat) (r : Int), (gs.map U.str).take r.toNat ++ [U.str w] ++ (gs.map U.str).drop r.toNat = (gs.take r.toNat ++ [w] ++ gs.drop r.toNat).map U.str := fun gs w r => by simp [List.map_take, List.map_drop]
  refine cut mG (fun ρ' S' => ∃ (x : Option U) (gs : List (List Nat)), ρ' = [some (.ref b), some (.lst (ws.map .str)), some (.ref p), x] ∧ S' p = some (.lst (gs.map .str)) ∧ Bx b kp c S' (n + 6) ∧ Kp [kp, c] S S' ∧ gs.length ≤ 3 ∧ ∀ g ∈ gs, Lo g) ?_ ?_
  · dsimp!
    refine for_inv mG (fun i ρ' S' => ∃ (x : Option U) (gs : List (List Nat)), ρ' = [some (.ref b), some (.lst (ws.map .str)), some (.ref p), x] ∧ S' p = some (.lst (gs.map .str)) ∧ Bx b kp c S' (n + 2 * i) ∧ Kp [kp, c] S S' ∧ gs.length ≤ i ∧ ∀ g ∈ gs, Lo g)
      ⟨_, [], rfl, Sto.put_same, by simpa using hb.put ⟨p1, p2, p3⟩, Kp.refl.put (.inl hp), Nat.le_refl _, by simp⟩ ?_ ?_
    · rintro i x ρ' S' hx ⟨y, gs, rfl, h2, h3, h4, h5, hg⟩
      obtain ⟨w, hw, rfl⟩ := strs_map hx
      have hi : i < ws.length := (List.getElem?_eq_some_iff.mp hw).1
      refine ⟨trivial, ?_⟩
      dsimp!
      refine run_cons ?_
      dsimp! [h9]
      refine take_ok h3 (by omega) (by decide) (by decide) fun r S2 a0 a1 a2 a3 => ?_
      have h6 := a3.at h2 (by simp [p2, p3])
      dsimp!
      refine ite2 (fun hr => ?_) (fun hr => run_nil ?_)
      · refine run_cons ?_
        dsimp! [h6, h9, List.length_map]
        refine take_ok a2 (by omega) (by omega) (by omega) fun r S3 c0 c1 c2 c3 => ?_
        have h7 := c3.at h6 (by simp [p2, p3])
        dsimp! [h7]
        refine ⟨by simp; rw [sizeLine_eq]; omega, c0, by omega, ?_⟩
        rw [ins]
        refine run_nil ?_
        dsimp only
        refine run_nil ⟨_, _, rfl, Sto.put_same, (c2.mono (by omega)).put ⟨p1, p2, p3⟩, ((h4.trans a3).trans c3).put (.inl hp), ?_, lo_ins hg (hlo w (List.mem_of_getElem? hw))⟩
        simp; omega
      · dsimp only
        exact run_nil ⟨_, gs, rfl, h6, a2.mono (by omega), h4.trans a3, by omega, hg⟩
    · rintro ρ' S' ⟨x, gs, rfl, h2, h3, h4, h5, hg⟩
      rw [List.length_map] at h5 h3
      exact ⟨trivial, _, gs, rfl, h2, h3.mono (by omega), h4, by omega, hg⟩
  rintro ρ' S1 ⟨x, gs, rfl, h2, h3, h4, h5, hg⟩
  refine cut mG (fun ρ' S' => ∃ (gs : List (List Nat)), ρ' = [some (.ref b), some (.lst (ws.map .str)), some (.ref p), x] ∧ S' p = some (.lst (gs.map .str)) ∧ Bx b kp c S' (n + 10) ∧ Kp [kp, c] S S' ∧ gs.length ≤ 4 ∧ ∀ g ∈ gs, Lo g) ?_ ?_
  · dsimp! [h9]
    refine take_ok h3 (by omega) (by decide) (by decide) fun r S2 a0 a1 a2 a3 => ?_
    have h6 := a3.at h2 (by simp [p2, p3])
    dsimp!
    refine ite2 (fun hr => ?_) (fun hr => run_nil ?_)
    · refine run_cons ?_
      dsimp! [h6, h9, List.length_map]
      refine take_ok a2 (by omega) (by omega) (by omega) fun r S3 c0 c1 c2 c3 => ?_
      have h7 := c3.at h6 (by simp [p2, p3])
      dsimp! [h7]
      refine ⟨by simp; rw [sizeLine_eq]; omega, c0, by omega, ?_⟩
      rw [ins]
      refine run_nil ⟨_, rfl, Sto.put_same, (c2.mono (by omega)).put ⟨p1, p2, p3⟩, ((h4.trans a3).trans c3).put (.inl hp), ?_, lo_ins hg (by unfold Lo; decide)⟩
      simp; omega
    · exact ⟨gs, rfl, h6, a2.mono (by omega), h4.trans a3, by omega, hg⟩
  rintro ρ' S2 ⟨gs, rfl, g1, g2, g3, g4, g5⟩
  refine run_cons ?_
  dsimp! [g1]
  exact k gs _ g4 g5 (g2.del ⟨p1, p2, p3⟩) (g3.del (.inl hp))
end K22
namespace K22
open PySem PySem.Spec PyProof.Rows L2 Mm
def key (w : List Nat) : L2.Key := .inr ⟨w.toArray⟩
theorem key_inj {w v : List Nat} (h : key w = key v) : w = v := by
  simp [key] at h; exact h
abbrev intsU (r : List Int) : U := .lst (r.map .int)
abbrev rowsU (rows : List (List Int)) : U := .lst (rows.map intsU)
def getK {α : Type} (l : List (List Nat × α)) (w : List Nat) : Option α := getA l w
theorem getA_map {α β : Type} (g : α → β) (w : List Nat) : ∀ l : List (List Nat × α), getA (l.map fun p => (key p.1, g p.2)) (key w) = (getA l w).map g
  | [] => rfl
  | p :: l => by
    unfold getA
    rw [List.map_cons, List.find?_cons, List.find?_cons]
    by_cases e : p.1 = w
    · simp [e]
    · have : key p.1 ≠ key w := fun z => e (key_inj z)
      simp only [e, this, decide_false]
      exact getA_map g w l
theorem putA_map {α β : Type} (g : α → β) (w : List Nat) (r : α) (l : List (List Nat × α)) : putA (l.map fun p => (key p.1, g p.2)) (key w) (g r) = (putA l w r).map fun p => (key p.1, g p.2) := by
  have any : ((l.map fun p => (key p.1, g p.2)).any fun kv => decide (kv.1 = key w)) = l.any fun kv => decide (kv.1 = w) := by
    rw [List.any_map]
    congr 1
    funext p
    show decide (key p.1 = key w) = decide (p.1 = w)
    by_cases e : p.1 = w
    · simp [e]
    · have : key p.1 ≠ key w := fun z => e (key_inj z)
      simp [e, this]
  unfold putA
  rw [any]
  by_cases e : (l.any fun kv => decide (kv.1 = w)) = true
  · rw [if_pos e, if_pos e, List.map_map, List.map_map]
    refine List.map_congr_left fun p _ => ?_
    show (if key p.1 = key w then (key p.1, g r) else (key p.1, g p.2)) = _
    by_cases e : p.1 = w
    · simp [e]
    · have : key p.1 ≠ key w := fun z => e (key_inj z)
      simp [e, this]
  · rw [if_neg e, if_neg e, List.map_append]; rfl
theorem getA_put {κ α : Type} [DecidableEq κ] (l : List (κ × α)) (w v : κ) (r : α) : getA (putA l w r) v = if v = w then some r else getA l v := by
  unfold putA
  by_cases e : (l.any fun kv => decide (kv.1 = w)) = true
  · rw [if_pos e]
    induction l with
    | nil => cases e
    | cons p l ih =>
      rw [List.any_cons, Bool.or_eq_true] at e
      unfold getA at *
      rw [List.map_cons, List.find?_cons, List.find?_cons]
      by_cases h1 : p.1 = w
      · simp only [h1, if_true]
        by_cases h2 : v = w
        · simp [h2]
        · have h3 : ¬ w = v := fun z => h2 z.symm
          simp only [h3, decide_false, h2, if_false]
          by_cases e2 : (l.any fun kv => decide (kv.1 = w)) = true
          · have := ih e2; rw [if_neg h2] at this; exact this
          · have : l.map (fun kv => if kv.1 = w then (w, r) else kv) = l := by
              refine (List.map_congr_left fun q hq => ?_).trans (List.map_id l)
              have : ¬ q.1 = w := fun z => e2 (List.any_eq_true.mpr ⟨q, hq, by simp [z]⟩)
              simp [this]
            first
              | (simp only [h1] at *; rw [this])
              | rw [this]
              | (have t : l.map (fun kv => if kv.1 = w then (kv.1, r) else kv) = l := by
                   refine (List.map_congr_left fun q hq => ?_).trans (List.map_id l)
                   have : ¬ q.1 = w := fun z => e2 (List.any_eq_true.mpr ⟨q, hq, by simp [z]⟩)
                   simp [this]
                 rw [t])
      · simp only [h1, if_false]
        have e2 := e.resolve_left (by simp [h1])
        by_cases h2 : p.1 = v
        · have h3 : ¬ v = w := fun z => h1 (h2.trans z)
          simp [h2, h3]
        · simp only [h2, decide_false]
          exact ih e2
  · rw [if_neg e]
    unfold getA
    rw [List.find?_append]
    by_cases h2 : v = w
    · subst h2
      have : l.find? (fun kv => decide (kv.1 = v)) = none := by
        rw [List.find?_eq_none]
        intro q hq z
        exact e (List.any_eq_true.mpr ⟨q, hq, z⟩)
      rw [this]; simp
    · have h3 : ¬ w = v := fun z => h2 z.symm
      rw [if_neg h2]
      cases l.find? (fun kv => decide (kv.1 = v)) with
      | none => simp [h3]
      | some q => simp
theorem putA_all {κ α : Type} [DecidableEq κ] {P : κ × α → Prop} {l : List (κ × α)} {w : κ} {r : α} (h : ∀ p ∈ l, P p) (hr : P (w, r)) : ∀ p ∈ putA l w r, P p := by
  unfold putA
  split
  · intro p hp
    obtain ⟨q, hq, rfl⟩ := List.mem_map.mp hp
    by_cases e : q.1 = w
    · simp only [e, if_true]; exact hr
    · simp only [e, if_false]; exact h q hq
  · intro p hp
    rcases List.mem_append.mp hp with hp | hp
    · exact h p hp
    · rw [List.mem_singleton.mp hp]; exact hr
theorem getA_mem {κ α : Type} [DecidableEq κ] {l : List (κ × α)} {w : κ} {r : α} (h : getA l w = some r) : (w, r) ∈ l := by
  unfold getA at h
  rw [Option.map_eq_some_iff] at h
  obtain ⟨q, h1, rfl⟩ := h
  have h2 := List.mem_of_find?_eq_some h1
  have h3 := List.find?_some h1
  simp at h3
  rw [← h3]; exact h2
theorem putA_len {κ α : Type} [DecidableEq κ] (l : List (κ × α)) (w : κ) (r : α) : (putA l w r).length ≤ l.length + 1 := by
  unfold putA; split <;> simp
/-- rows of worlds -/
def RowsOk (count m : Nat) (rows : List (List Int)) : Prop := rows.length = count ∧ ∀ r ∈ rows, r.length ≤ m ∧ ∀ y ∈ r, 0 ≤ y ∧ y < count
def spRows : FS := ⟨2, fun us S R _ => ∃ b kp c n, ∃ count : Nat, us = [.ref b, .int count] ∧ Bx b kp c S n ∧ n < 2 ^ 28 ∧ 1 ≤ count ∧ count ≤ 5 ∧
  ∀ p rows S', S p = none → S' p = some (.lst (rows.map intsU)) → RowsOk count 5 rows → Bx b kp c S' (n + 20) → Kp [kp, c] S S' → R (.ref p) S'⟩
theorem pow5 {count : Nat} (h : count ≤ 5) : 0 < (1 : Int) * 2 ^ ((count : Int).toNat) ∧ (1 : Int) * 2 ^ ((count : Int).toNat) < 2 ^ 30 := by
  rw [Int.toNat_natCast, Int.one_mul]
  have e : ((2 : Int) ^ count) = ((2 ^ count : Nat) : Int) := by simp
  have h1 : 2 ^ count ≤ 2 ^ 5 := Nat.pow_le_pow_right (by omega) h
  have h2 : 0 < 2 ^ count := Nat.pow_pos (by omega)
  rw [e]
  constructor <;> omega
theorem body_rows (G : GV) (mG : GMono G) (h9 : G.fns[9]? = some spTake) : ∀ us S R RX, us.length = pr_law_rows.length → spRows.sp us S R RX → wCms G (fun x _ S' => RX x S') ir_law_rows (startU nm_law_rows us) S { nx := fun _ S' => R .non S', rt := R } := by
  rintro us S R RX - ⟨b, kp, c, n, count, rfl, hb, hn, hc1, hc2, k⟩
  have e0 : startU nm_law_rows [.ref b, .int count] = [some (.ref b), some (.int count), none, none, none, none, none] := rfl
  rw [e0]
  unfold ir_law_rows
  obtain ⟨hp1, hp2⟩ := pow5 hc2
  refine run_cons ?_
  dsimp! [h9]
  refine take_ok hb (by omega) (by decide) (by decide) fun way S0 w0 w1 hb0 k0 => ?_
  refine run_cons ?_
  dsimp! [n_al1]
  intro p hp
  obtain ⟨p1, p2, p3⟩ := hb0.new hp
  have fp := k0.fresh (by simp [p2, p3]) hp
  refine cut mG (fun ρ' S' => ∃ (x y : Option U) (rows : List (List Int)), ρ' = [some (.ref b), some (.int count), some (.int way), some (.ref p), x, y, none] ∧ S' p = some (.lst (rows.map intsU)) ∧ RowsOk count 5 rows ∧ Bx b kp c S' (n + 20) ∧ Kp [kp, c] S S') ?_ ?_
  · dsimp!
    refine ⟨by omega, ?_⟩
    refine for_inv mG (fun i ρ' S' => ∃ (x y : Option U) (rows : List (List Int)), ρ' = [some (.ref b), some (.int count), some (.int way), some (.ref p), x, y, none] ∧ S' p = some (.lst (rows.map intsU)) ∧ rows.length = i ∧ (∀ r ∈ rows, r.length ≤ 5 ∧ ∀ y ∈ r, 0 ≤ y ∧ y < count) ∧ Bx b kp c S' (n + 1 + 2 * i) ∧ Kp [kp, c] S S')
      ⟨_, _, [], rfl, Sto.put_same, rfl, by simp, by simpa using hb0.put ⟨p1, p2, p3⟩, k0.put (.inl fp)⟩ ?_ ?_
    · rintro i x ρ' S' hx ⟨y, z, rows, rfl, g1, g2, g3, g4, g5⟩
      obtain ⟨rfl, hi⟩ := rngU_at hx
      refine ⟨trivial, ?_⟩
      dsimp!
      refine run_cons ?_
      dsimp! [h9]
      refine ⟨⟨by omega, by omega, by decide⟩, ?_⟩
      refine take_ok g4 (by omega) hp1 hp2 fun m1 S2 a0 a1 a2 a3 => ?_
      have g6 := a3.at g1 (by simp [p2, p3])
      refine cut mG (fun ρ' S' => ∃ mask : Int, ρ' = [some (.ref b), some (.int count), some (.int way), some (.ref p), some (.int (0 + i)), some (.int mask), none] ∧ S' p = some (.lst (rows.map intsU)) ∧ Bx b kp c S' (n + 1 + 2 * (i + 1 : Nat)) ∧ Kp [kp, c] S S') ?_ ?_
      · dsimp!
        refine ite2 (fun hw => ?_) (fun hw => run_nil ⟨_, rfl, g6, a2.mono (by omega), g5.trans a3⟩)
        refine run_cons ?_
        dsimp! [h9]
        refine ⟨⟨by omega, by omega, by decide⟩, ?_⟩
        refine take_ok a2 (by omega) hp1 hp2 fun m2 S3 c0 c1 c2 c3 => ?_
        dsimp!
        exact run_nil ⟨_, rfl, c3.at g6 (by simp [p2, p3]), c2.mono (by omega), (g5.trans a3).trans c3⟩
      rintro ρ' S3 ⟨mask, rfl, d1, d2, d3⟩
      refine run_cons ?_
      dsimp! [d1]
      refine ⟨by omega, ?_⟩
      refine lc_by mG (fun j acc S' => S' = S3 ∧ ∃ r : List Int, acc = r.map .int ∧ r.length ≤ j ∧ ∀ y ∈ r, 0 ≤ y ∧ y < count) ⟨rfl, [], rfl, Nat.le_refl _, by simp⟩ ?_ ?_
      · rintro j x acc S' hx ⟨rfl, r, rfl, r1, r2⟩
        obtain ⟨rfl, hj⟩ := rngU_at hx
        rw [Int.toNat_natCast] at hj
        refine ⟨trivial, ?_⟩
        dsimp! [wipeU]
        have yes : (r.map U.int).length < sizeLine ∧ ∃ r' : List Int, (r.map U.int) ++ [.int (0 + (j : Int))] = r'.map .int ∧ r'.length ≤ j + 1 ∧ ∀ y ∈ r', 0 ≤ y ∧ y < count := by
          refine ⟨by simp; rw [sizeLine_eq]; omega, r ++ [0 + (j : Int)], by simp, by simp; omega, fun y hy => ?_⟩
          rcases List.mem_append.mp hy with hy | hy
          · exact r2 y hy
          · rw [List.mem_singleton.mp hy]; omega
        have no : ∃ r' : List Int, (r.map U.int) = r'.map .int ∧ r'.length ≤ j + 1 ∧ ∀ y ∈ r', 0 ≤ y ∧ y < count := ⟨r, rfl, by omega, r2⟩
        refine ⟨by omega, ?_⟩
        refine ite2 (fun _ => ?_) (fun _ => no)
        refine ite2 (fun _ => ?_) (fun _ => ?_)
        · exact yes
        · refine ite2 (fun _ => yes) (fun _ => no)
      · rintro acc S' ⟨rfl, r, rfl, r1, r2⟩
        refine ⟨trivial, ?_⟩
        rw [rngU_length] at r1
        dsimp! [d1]
        refine ⟨by simp; rw [sizeLine_eq]; omega, ?_⟩
        refine run_nil ⟨_, _, rows ++ [r], rfl, by rw [Sto.put_same]; simp, by simp [g2], fun r' hr' => ?_, d2.put ⟨p1, p2, p3⟩, d3.put (.inl fp)⟩
        rcases List.mem_append.mp hr' with hr' | hr'
        · exact g3 r' hr'
        · rw [List.mem_singleton.mp hr']; exact ⟨by omega, r2⟩
    · rintro ρ' S' ⟨x, y, rows, rfl, g1, g2, g3, g4, g5⟩
      rw [rngU_length] at g2 g4
      exact ⟨trivial, _, _, rows, rfl, g1, ⟨by omega, g3⟩, g4.mono (by omega), g5⟩
  rintro ρ' S2 ⟨x, y, rows, rfl, g1, g2, g3, g4⟩
  refine run_cons ?_
  dsimp!
  exact k p rows _ fp g1 g2 g3 g4
end K22
namespace K22
open PySem PySem.Spec PyProof.Rows L2 Mm
/-- what is drawn: the worlds' count, the arrows by name, the marks by atom -/
structure Dr where
  count : Nat
  lk : List (List Nat × List (List Int))
  sp : List (List Nat × List Int)
def lkE (p : List Nat × List (List Int)) : L2.Key × U := (key p.1, rowsU p.2)
def spE (p : List Nat × List Int) : L2.Key × U := (key p.1, intsU p.2)
def lkU (l : List (List Nat × List (List Int))) : U := .dct (l.map fun p => key p.1) (l.map fun p => rowsU p.2)
def spU (l : List (List Nat × List Int)) : U := .dct (l.map fun p => key p.1) (l.map fun p => intsU p.2)
def drU (d : Dr) : U := .lst [.int d.count, lkU d.lk, spU d.sp]
structure OkDr (m : Nat) (d : Dr) : Prop where
  c1 : 1 ≤ d.count
  c2 : d.count ≤ 64
  lk : ∀ p ∈ d.lk, IsName p.1 ∧ RowsOk d.count m p.2
  sp : ∀ p ∈ d.sp, IsWord p.1 ∧ p.2.length < 64 ∧ (d.count ≤ 5 → p.2.length ≤ m - 55) ∧ ∀ y ∈ p.2, 0 ≤ y ∧ y < d.count
  ll : d.lk.length ≤ 5
  sl : d.sp.length ≤ 5
def HasAll (ns as : List (List Nat)) (d : Dr) : Prop := (∀ w ∈ ns, (getA d.lk w).isSome = true) ∧ ∀ w ∈ as, (getA d.sp w).isSome = true
theorem set_lk {S : Sto} {p : Addr} {l : List (List Nat × List (List Int))} {w : List Nat} {r : List (List Int)} {K : Sto → Prop} (h : S p = some (.dct (l.map lkE))) (hl : l.length < 1000) (k : K (S.put p (.dct ((putA l w r).map lkE)))) : setIxW (.ref p) (.str w) (rowsU r) S K := by
  rw [n_setS, h]
  refine ⟨by rw [List.length_map, sizeLine_eq]; omega, ?_⟩
  have := putA_map rowsU w r l
  unfold key at this
  show K (S.put p (.dct (putA (l.map lkE) (.inr ⟨w.toArray⟩) (rowsU r))))
  unfold lkE key
  rw [this]; exact k
theorem set_sp {S : Sto} {p : Addr} {l : List (List Nat × List Int)} {w : List Nat} {r : List Int} {K : Sto → Prop} (h : S p = some (.dct (l.map spE))) (hl : l.length < 1000) (k : K (S.put p (.dct ((putA l w r).map spE)))) : setIxW (.ref p) (.str w) (intsU r) S K := by
  rw [n_setS, h]
  refine ⟨by rw [List.length_map, sizeLine_eq]; omega, ?_⟩
  have := putA_map intsU w r l
  unfold key at this
  show K (S.put p (.dct (putA (l.map spE) (.inr ⟨w.toArray⟩) (intsU r))))
  unfold spE key
  rw [this]; exact k
theorem Dfzs.dats {S : Sto} : ∀ xs : List U, ∃ D, Dfzs S xs xs D ∧ D = []
  | [] => ⟨[], .nil, rfl⟩
  | x :: xs => by
    obtain ⟨D, h, rfl⟩ := Dfzs.dats (S := S) xs
    exact ⟨_, .cons (.dat x) h, rfl⟩
theorem frz_lk {S : Sto} {p : Addr} {l : List (List Nat × List (List Int))} (h : S p = some (.dct (l.map lkE))) : Gst (.ref p) S (lkU l) (delS S [p]) := by
  obtain ⟨D, hd, rfl⟩ := Dfzs.dats (S := S) ((l.map lkE).map (·.2))
  have := gst_dct h hd
  rw [List.map_map, List.map_map] at this
  exact this
theorem frz_sp {S : Sto} {p : Addr} {l : List (List Nat × List Int)} (h : S p = some (.dct (l.map spE))) : Gst (.ref p) S (spU l) (delS S [p]) := by
  obtain ⟨D, hd, rfl⟩ := Dfzs.dats (S := S) ((l.map spE).map (·.2))
  have := gst_dct h hd
  rw [List.map_map, List.map_map] at this
  exact this
theorem delS_ne {S : Sto} {D : List Addr} {a : Addr} (h : a ∉ D) : delS S D a = S a := by unfold delS; rw [if_neg h]
theorem Bx.dels {b kp c : Addr} {S : Sto} {n : Int} {D : List Addr} (h : Bx b kp c S n) (e : ∀ p ∈ D, p ≠ b ∧ p ≠ kp ∧ p ≠ c) : Bx b kp c (delS S D) n := by
  obtain ⟨kept, sm, cnt, hb, hk, hc, r⟩ := h
  exact ⟨kept, sm, cnt, (delS_ne fun z => (e _ z).1 rfl).trans hb, (delS_ne fun z => (e _ z).2.1 rfl).trans hk, (delS_ne fun z => (e _ z).2.2 rfl).trans hc, r⟩
theorem has_put {α : Type} {l : List (List Nat × α)} {w : List Nat} {r : α} {ws : List (List Nat)} (h : ∀ v ∈ ws, (getA l v).isSome = true) : ∀ v ∈ ws ++ [w], (getA (putA l w r) v).isSome = true := by
  intro v hv
  rw [getA_put]
  by_cases e : v = w
  · rw [if_pos e]; rfl
  · rw [if_neg e]
    rcases List.mem_append.mp hv with hv | hv
    · exact h v hv
    · exact absurd (List.mem_singleton.mp hv) e
/-- a drawing def's promise -/
def spDr (j : Int) : FS := ⟨3, fun us S R _ => ∃ b kp c n, ∃ ns as : List (List Nat), us = [.ref b, .lst (ns.map .str), .lst (as.map .str)] ∧ Bx b kp c S n ∧ n < 2 ^ 27 + 300 - j ∧ ns ≠ [] ∧ ns.length ≤ 3 ∧ as.length ≤ 3 ∧ (∀ w ∈ ns, IsName w) ∧ (∀ w ∈ as, IsWord w) ∧
  ∀ d S', OkDr 60 d → HasAll ns as d → Bx b kp c S' (n + j) → Kp [kp, c] S S' → R (drU d) S'⟩
theorem take_len {ns : List (List Nat)} {i : Nat} {w : List Nat} (h : ns[i]? = some w) : ns.take (i + 1) = ns.take i ++ [w] := by
  rw [List.take_add_one, h]; rfl
theorem body_drawn (G : GV) (mG : GMono G) (h9 : G.fns[9]? = some spTake) (h13 : G.fns[13]? = some spRows) (h15 : G.fns[15]? = some (spDr 200)) (h16 : G.fns[16]? = some (spDr 200)) : ∀ us S R RX, us.length = pr_law_drawn.length → (spDr 300).sp us S R RX → wCms G (fun x _ S' => RX x S') ir_law_drawn (startU nm_law_drawn us) S { nx := fun _ S' => R .non S', rt := R } := by
  rintro us S R RX - ⟨b, kp, c, n, ns, as, rfl, hb, hn, ne, l1, l2, hN, hA, k⟩
  have e0 : startU nm_law_drawn [.ref b, .lst (ns.map .str), .lst (as.map .str)] = [some (.ref b), some (.lst (ns.map .str)), some (.lst (as.map .str)), none, none, none, none, none, none, none, none] := rfl
  rw [e0]
  unfold ir_law_drawn
  refine run_cons ?_
  dsimp! [h9]
  refine take_ok hb (by omega) (by decide) (by decide) fun way S0 w0 w1 hb0 k0 => ?_
  refine run_cons ?_
  dsimp!
  refine ite2 (fun _ => ?_) (fun _ => run_nil ?_)
  · refine run_cons ?_
    dsimp! [h15]
    exact ⟨rfl, b, kp, c, n + 1, ns, as, rfl, hb0, by omega, ne, l1, l2, hN, hA, fun d S' a1 a2 a3 a4 => k d S' a1 a2 (a3.mono (by omega)) (k0.trans a4)⟩
  refine run_cons ?_
  dsimp!
  refine ite2 (fun _ => ?_) (fun _ => run_nil ?_)
  · refine run_cons ?_
    dsimp! [h16]
    exact ⟨rfl, b, kp, c, n + 1, ns, as, rfl, hb0, by omega, ne, l1, l2, hN, hA, fun d S' a1 a2 a3 a4 => k d S' a1 a2 (a3.mono (by omega)) (k0.trans a4)⟩
  refine run_cons ?_
  dsimp! [h9]
  refine take_ok hb0 (by omega) (by decide) (by decide) fun c5 S1 a0 a1 hb1 k1 => ?_
  dsimp!
  obtain ⟨count, hcount⟩ : ∃ count : Nat, 1 + c5 = count := ⟨(1 + c5).toNat, by omega⟩
  rw [hcount]
  have hc1 : 1 ≤ count := by omega
  have hc2 : count ≤ 5 := by omega
  obtain ⟨hp1, hp2⟩ := pow5 hc2
  refine run_cons ?_
  dsimp!
  intro l hl
  obtain ⟨q1, q2, q3⟩ := hb1.new hl
  have k01 := k0.trans k1
  have fl := k01.fresh (by simp [q2, q3]) hl
  refine cut mG (fun ρ' S' => ∃ (x : Option U) (lk : List (List Nat × List (List Int))), ρ' = [some (.ref b), some (.lst (ns.map .str)), some (.lst (as.map .str)), some (.int way), some (.int count), some (.ref l), x, none, none, none, none] ∧ S' l = some (.dct (lk.map lkE)) ∧ lk.length ≤ 3 ∧ (∀ p ∈ lk, IsName p.1 ∧ RowsOk count 5 p.2) ∧ (∀ w ∈ ns, (getA lk w).isSome = true) ∧ Bx b kp c S' (n + 80) ∧ Kp [kp, c] S S') ?_ ?_
  · dsimp!
    refine for_inv mG (fun i ρ' S' => ∃ (x : Option U) (lk : List (List Nat × List (List Int))), ρ' = [some (.ref b), some (.lst (ns.map .str)), some (.lst (as.map .str)), some (.int way), some (.int count), some (.ref l), x, none, none, none, none] ∧ S' l = some (.dct (lk.map lkE)) ∧ lk.length ≤ i ∧ (∀ p ∈ lk, IsName p.1 ∧ RowsOk count 5 p.2) ∧ (∀ w ∈ ns.take i, (getA lk w).isSome = true) ∧ Bx b kp c S' (n + 2 + 20 * i) ∧ Kp [kp, c] S S')
      ⟨_, [], rfl, Sto.put_same, by simp, by simp, by simp, (hb1.mono (by omega)).put ⟨q1, q2, q3⟩, k01.put (.inl fl)⟩ ?_ ?_
    · rintro i x ρ' S' hx ⟨y, lk, rfl, g1, g2, g3, g4, g5, g6⟩
      obtain ⟨w, hw, rfl⟩ := strs_map hx
      have hi : i < ns.length := (List.getElem?_eq_some_iff.mp hw).1
      refine ⟨trivial, ?_⟩
      dsimp!
      refine run_cons ?_
      dsimp! [h13]
      refine ⟨rfl, b, kp, c, _, count, rfl, g5, by omega, hc1, hc2, fun p rows S2 f1 f2 f3 f4 f5 => ?_⟩
      have g7 := f5.at g1 (by simp [q2, q3])
      have npl : p ≠ l := fun z => by rw [z, g1] at f1; cases f1
      obtain ⟨r1, r2, r3⟩ := g5.new f1
      have fp : S p = none := g6.fresh (by simp [r2, r3]) f1
      dsimp! [f2]
      refine set_lk (r := rows) ((Sto.del_ne (Ne.symm npl)).trans g7) (by omega) ?_
      refine run_nil ⟨_, _, rfl, Sto.put_same, ?_, putA_all g3 ⟨hN w (List.mem_of_getElem? hw), f3⟩, ?_, ((f4.del ⟨r1, r2, r3⟩).put ⟨q1, q2, q3⟩).mono (by omega), ((g6.trans f5).del (.inl fp)).put (.inl fl)⟩
      · have := putA_len lk w rows; omega
      · rw [take_len hw]; exact has_put g4
    · rintro ρ' S' ⟨x, lk, rfl, g1, g2, g3, g4, g5, g6⟩
      rw [List.length_map] at g2 g4 g5
      rw [List.take_length] at g4
      exact ⟨trivial, _, lk, rfl, g1, by omega, g3, g4, g5.mono (by omega), g6⟩
  rintro ρ' S2 ⟨x, lk, rfl, g1, g2, g3, g4, g5, g6⟩
  refine run_cons ?_
  dsimp!
  intro t ht
  obtain ⟨t1, t2, t3⟩ := g5.new ht
  have ft := g6.fresh (by simp [t2, t3]) ht
  have ntl : l ≠ t := fun z => by rw [← z, g1] at ht; cases ht
  refine cut mG (fun ρ' S' => ∃ (y z : Option U) (sp : List (List Nat × List Int)), ρ' = [some (.ref b), some (.lst (ns.map .str)), some (.lst (as.map .str)), some (.int way), some (.int count), some (.ref l), x, some (.ref t), y, z, none] ∧ S' l = some (.dct (lk.map lkE)) ∧ S' t = some (.dct (sp.map spE)) ∧ sp.length ≤ 3 ∧ (∀ p ∈ sp, IsWord p.1 ∧ p.2.length ≤ 5 ∧ ∀ y ∈ p.2, 0 ≤ y ∧ y < count) ∧ (∀ w ∈ as, (getA sp w).isSome = true) ∧ Bx b kp c S' (n + 100) ∧ Kp [kp, c] S S') ?_ ?_
  · dsimp!
    refine for_inv mG (fun i ρ' S' => ∃ (y z : Option U) (sp : List (List Nat × List Int)), ρ' = [some (.ref b), some (.lst (ns.map .str)), some (.lst (as.map .str)), some (.int way), some (.int count), some (.ref l), x, some (.ref t), y, z, none] ∧ S' l = some (.dct (lk.map lkE)) ∧ S' t = some (.dct (sp.map spE)) ∧ sp.length ≤ i ∧ (∀ p ∈ sp, IsWord p.1 ∧ p.2.length ≤ 5 ∧ ∀ y ∈ p.2, 0 ≤ y ∧ y < count) ∧ (∀ w ∈ as.take i, (getA sp w).isSome = true) ∧ Bx b kp c S' (n + 80 + i) ∧ Kp [kp, c] S S')
      ⟨_, _, [], rfl, (Sto.put_ne ntl).trans g1, Sto.put_same, by simp, by simp, by simp, (g5.mono (by omega)).put ⟨t1, t2, t3⟩, g6.put (.inl ft)⟩ ?_ ?_
    · rintro i x ρ' S' hx ⟨y, z, sp, rfl, f0, f1, f2, f3, f4, f5, f6⟩
      obtain ⟨w, hw, rfl⟩ := strs_map hx
      have hi : i < as.length := (List.getElem?_eq_some_iff.mp hw).1
      refine ⟨trivial, ?_⟩
      dsimp!
      refine run_cons ?_
      dsimp! [h9]
      refine ⟨⟨by omega, by omega, by decide⟩, ?_⟩
      refine take_ok f5 (by omega) hp1 hp2 fun mask S3 c0 c1 c2 c3 => ?_
      refine run_cons ?_
      dsimp!
      refine ⟨by omega, ?_⟩
      refine lc_by mG (fun j acc S' => S' = S3 ∧ ∃ r : List Int, acc = r.map .int ∧ r.length ≤ j ∧ ∀ y ∈ r, 0 ≤ y ∧ y < count) ⟨rfl, [], rfl, Nat.le_refl _, by simp⟩ ?_ ?_
      · rintro j x acc S' hx ⟨rfl, r, rfl, r1, r2⟩
        obtain ⟨rfl, hj⟩ := rngU_at hx
        rw [Int.toNat_natCast] at hj
        refine ⟨trivial, ?_⟩
        dsimp! [wipeU]
        refine ⟨by omega, ?_⟩
        refine ite2 (fun _ => ?_) (fun _ => ⟨r, rfl, by omega, r2⟩)
        refine ⟨by simp; rw [sizeLine_eq]; omega, r ++ [0 + (j : Int)], by simp, by simp; omega, fun y hy => ?_⟩
        rcases List.mem_append.mp hy with hy | hy
        · exact r2 y hy
        · rw [List.mem_singleton.mp hy]; omega
      · rintro acc S' ⟨rfl, r, rfl, r1, r2⟩
        refine ⟨trivial, ?_⟩
        rw [rngU_length] at r1
        dsimp!
        refine set_sp (r := r) (c3.at f1 (by simp [t2, t3])) (by omega) ?_
        refine run_nil ⟨_, _, _, rfl, (Sto.put_ne ntl).trans (c3.at f0 (by simp [q2, q3])), Sto.put_same, ?_, putA_all f3 ⟨hA w (List.mem_of_getElem? hw), (by show r.length ≤ 5; omega), r2⟩, ?_, (c2.put ⟨t1, t2, t3⟩).mono (by omega), (f6.trans c3).put (.inl ft)⟩
        · have := putA_len sp w r; omega
        · rw [take_len hw]; exact has_put f4
    · rintro ρ' S' ⟨y, z, sp, rfl, f0, f1, f2, f3, f4, f5, f6⟩
      rw [List.length_map] at f2 f4 f5
      rw [List.take_length] at f4
      exact ⟨trivial, _, _, sp, rfl, f0, f1, by omega, f3, f4, f5.mono (by omega), f6⟩
  rintro ρ' S3 ⟨y, z, sp, rfl, f0, f1, f2, f3, f4, f5, f6⟩
  refine run_cons ?_
  dsimp!
  refine ⟨_, _, frz_lk f0, _, _, frz_sp ((delS_ne (by simp [Ne.symm ntl])).trans f1), ?_⟩
  exact k ⟨count, lk, sp⟩ _ ⟨hc1, by show count ≤ 64; omega, fun p hp => ⟨(g3 p hp).1, (g3 p hp).2.1, fun r hr => ⟨by have := ((g3 p hp).2.2 r hr).1; omega, ((g3 p hp).2.2 r hr).2⟩⟩, fun p hp => ⟨(f3 p hp).1, by have := (f3 p hp).2.1; omega, fun _ => (f3 p hp).2.1, (f3 p hp).2.2⟩, by show lk.length ≤ 5; omega, by show sp.length ≤ 5; omega⟩ ⟨g4, f4⟩
    (((f5.dels (by simp [q1, q2, q3])).dels (by simp [t1, t2, t3])).mono (by omega)) ((f6.delS (by simp [fl])).delS (by simp [ft]))
end K22
namespace K22
open PySem PySem.Spec PyProof.Rows L2 Mm
theorem ix_int {S : Sto} {R : Post} {xs : List Int} {i : Int} (h0 : 0 ≤ i) (h : i < xs.length) (k : ∀ z ∈ xs, R (.int z) S) : idxW (.lst (xs.map .int)) (.int i) S R := by
  obtain ⟨z, h1, h2⟩ := atI_map h0 h
  rw [n_ixl]
  exact ⟨_, h2, k z h1⟩
theorem ix_refs {S : Sto} {R : Post} {xs : List Addr} {i : Int} (h0 : 0 ≤ i) (h : i < xs.length) (k : ∀ z ∈ xs, R (.ref z) S) : idxW (.lst (xs.map .ref)) (.int i) S R := by
  obtain ⟨u, h1, h2⟩ := at_in h0 h
  rw [n_ixl]
  refine ⟨.ref u, ?_, k u (List.mem_of_getElem? h2)⟩
  rw [at_nat h0, List.getElem?_map, h2]; rfl
theorem body_broad (G : GV) (mG : GMono G) (h9 : G.fns[9]? = some spTake) (h13 : G.fns[13]? = some spRows) : ∀ us S R RX, us.length = pr_law_broad.length → (spDr 200).sp us S R RX → wCms G (fun x _ S' => RX x S') ir_law_broad (startU nm_law_broad us) S { nx := fun _ S' => R .non S', rt := R } := by
  rintro us S R RX - ⟨b, kp, c, n, ns, as, rfl, hb, hn, ne, l1, l2, hN, hA, k⟩
  have e0 : startU nm_law_broad [.ref b, .lst (ns.map .str), .lst (as.map .str)] = [some (.ref b), some (.lst (ns.map .str)), some (.lst (as.map .str)), none, none, none, none, none, none, none, none, none, none, none] := rfl
  rw [e0]
  unfold ir_law_broad
  refine run_cons ?_
  dsimp! [h9]
  refine take_ok hb (by omega) (by decide) (by decide) fun c5 S1 a0 a1 hb1 k01 => ?_
  dsimp!
  obtain ⟨count, hcount⟩ : ∃ count : Nat, 30 + c5 = count := ⟨(30 + c5).toNat, by omega⟩
  rw [hcount]
  have hc1 : 30 ≤ count := by omega
  have hc2 : count ≤ 64 := by omega
  refine run_cons ?_
  dsimp!
  intro l hl
  obtain ⟨q1, q2, q3⟩ := hb1.new hl
  have fl := k01.fresh (by simp [q2, q3]) hl
  refine cut mG (fun ρ' S' => ∃ (x1 x2 x3 x4 x5 x6 : Option U) (lk : List (List Nat × List (List Int))), ρ' = [some (.ref b), some (.lst (ns.map .str)), some (.lst (as.map .str)), some (.int count), some (.ref l), x1, x2, x3, x4, x5, x6, none, none, none] ∧ S' l = some (.dct (lk.map lkE)) ∧ lk.length ≤ 3 ∧ (∀ p ∈ lk, IsName p.1 ∧ RowsOk count 5 p.2) ∧ (∀ w ∈ ns, (getA lk w).isSome = true) ∧ Bx b kp c S' (n + 80) ∧ Kp [kp, c] S S') ?_ ?_
  · dsimp!
    refine for_inv mG (fun i ρ' S' => ∃ (x1 x2 x3 x4 x5 x6 : Option U) (lk : List (List Nat × List (List Int))), ρ' = [some (.ref b), some (.lst (ns.map .str)), some (.lst (as.map .str)), some (.int count), some (.ref l), x1, x2, x3, x4, x5, x6, none, none, none] ∧ S' l = some (.dct (lk.map lkE)) ∧ lk.length ≤ i ∧ (∀ p ∈ lk, IsName p.1 ∧ RowsOk count 5 p.2) ∧ (∀ w ∈ ns.take i, (getA lk w).isSome = true) ∧ Bx b kp c S' (n + 1 + 22 * i) ∧ Kp [kp, c] S S')
      ⟨_, _, _, _, _, _, [], rfl, Sto.put_same, by simp, by simp, by simp, (hb1.mono (by omega)).put ⟨q1, q2, q3⟩, k01.put (.inl fl)⟩ ?_ ?_
    · rintro i x ρ' S' hx ⟨x1, x2, x3, x4, x5, x6, lk, rfl, g1, g2, g3, g4, g5, g6⟩
      obtain ⟨w, hw, rfl⟩ := strs_map hx
      have hi : i < ns.length := (List.getElem?_eq_some_iff.mp hw).1
      refine ⟨trivial, ?_⟩
      dsimp!
      refine run_cons ?_
      dsimp! [h13]
      refine ⟨rfl, b, kp, c, _, 5, rfl, g5, by omega, by omega, by omega, fun p rows S2 f1 f2 f3 f4 f5 => ?_⟩
      have g7 := f5.at g1 (by simp [q2, q3])
      have npl : p ≠ l := fun z => by rw [z, g1] at f1; cases f1
      obtain ⟨r1, r2, r3⟩ := g5.new f1
      have fp : S p = none := g6.fresh (by simp [r2, r3]) f1
      refine run_cons ?_
      dsimp! [h9]
      refine take_ok f4 (by omega) (by decide) (by decide) fun step S3 b0 b1 b2 b3 => ?_
      refine run_cons ?_
      dsimp! [h9]
      refine take_ok b2 (by omega) (by decide) (by decide) fun shift S4 d0 d1 d2 d3 => ?_
      have g8 : S4 l = some (.dct (lk.map lkE)) := d3.at (b3.at g7 (by simp [q2, q3])) (by simp [q2, q3])
      have f6 : S4 p = some (.lst (rows.map intsU)) := d3.at (b3.at f2 (by simp [r2, r3])) (by simp [r2, r3])
      have k4 : Kp [kp, c] S S4 := ((g6.trans f5).trans b3).trans d3
      refine cut mG (fun ρ' S' => ∃ (x5 x6 : Option U) (rows : List (List Int)), ρ' = [some (.ref b), some (.lst (ns.map .str)), some (.lst (as.map .str)), some (.int count), some (.ref l), some (.str w), some (.ref p), some (.int (1 + step)), some (.int shift), x5, x6, none, none, none] ∧ S' l = some (.dct (lk.map lkE)) ∧ S' p = some (.lst (rows.map intsU)) ∧ RowsOk count 5 rows ∧ Bx b kp c S' (n + 1 + 22 * (i + 1 : Nat)) ∧ Kp [kp, c] S S') ?_ ?_
      · dsimp!
        refine ⟨by omega, ?_⟩
        refine for_inv mG (fun j ρ' S' => ∃ (x5 x6 : Option U) (rows : List (List Int)), ρ' = [some (.ref b), some (.lst (ns.map .str)), some (.lst (as.map .str)), some (.int count), some (.ref l), some (.str w), some (.ref p), some (.int (1 + step)), some (.int shift), x5, x6, none, none, none] ∧ S' l = some (.dct (lk.map lkE)) ∧ S' p = some (.lst (rows.map intsU)) ∧ rows.length = 5 + j ∧ (∀ r ∈ rows, r.length ≤ 5 ∧ ∀ y ∈ r, 0 ≤ y ∧ y < count) ∧ Bx b kp c S' (n + 1 + 22 * (i + 1 : Nat)) ∧ Kp [kp, c] S S')
          ⟨_, _, rows, rfl, g8, f6, by simpa using f3.1, fun r hr => ⟨(f3.2 r hr).1, fun y hy => by have := (f3.2 r hr).2 y hy; omega⟩, d2.mono (by omega), k4⟩ ?_ ?_
        · rintro j x ρ' S' hx ⟨y5, y6, rows, rfl, j1, j2, j3, j4, j5, j6⟩
          obtain ⟨rfl, hj⟩ := rngU_at hx
          refine ⟨trivial, ?_⟩
          dsimp!
          refine run_cons ?_
          dsimp!
          refine ⟨.inl (by omega), by omega, ?_⟩
          refine run_cons ?_
          dsimp! [j2]
          refine ⟨by omega, ?_⟩
          refine lc_by mG (fun j acc S2 => S2 = S' ∧ ∃ r : List Int, acc = r.map .int ∧ r.length ≤ j ∧ ∀ y ∈ r, 0 ≤ y ∧ y < count) ⟨rfl, [], rfl, Nat.le_refl _, by simp⟩ ?_ ?_
          · rintro j x acc S' hx ⟨rfl, r, rfl, r1, r2⟩
            obtain ⟨rfl, hj⟩ := rngU_at hx
            have hj : j < 5 := hj
            refine ⟨trivial, ?_⟩
            dsimp! [wipeU]
            refine ⟨by omega, ?_⟩
            refine ite2 (fun _ => ?_) (fun _ => ⟨r, rfl, by omega, r2⟩)
            refine ⟨by simp; rw [sizeLine_eq]; omega, r ++ [0 + (j : Int)], by simp, by simp; omega, fun y hy => ?_⟩
            rcases List.mem_append.mp hy with hy | hy
            · exact r2 y hy
            · rw [List.mem_singleton.mp hy]; omega
          · rintro acc S2 ⟨rfl, r, rfl, s1, s2⟩
            refine ⟨trivial, ?_⟩
            rw [rngU_length] at s1
            have s1 : r.length ≤ 5 := s1
            dsimp! [j2]
            refine ⟨by simp; rw [sizeLine_eq]; omega, ?_⟩
            refine run_nil ⟨_, _, rows ++ [r], rfl, (Sto.put_ne (Ne.symm npl)).trans j1, by rw [Sto.put_same]; simp, by simp; omega, fun r' hr' => ?_, j5.put ⟨r1, r2, r3⟩, j6.put (.inl fp)⟩
            rcases List.mem_append.mp hr' with hr' | hr'
            · exact j4 r' hr'
            · rw [List.mem_singleton.mp hr']; exact ⟨s1, s2⟩
        · rintro ρ' S' ⟨y5, y6, rows, rfl, j1, j2, j3, j4, j5, j6⟩
          rw [rngU_length] at j3
          exact ⟨trivial, _, _, rows, rfl, j1, j2, ⟨by omega, j4⟩, j5, j6⟩
      rintro ρ' S5 ⟨y5, y6, rows2, rfl, j1, j2, j3, j4, j5⟩
      refine run_cons ?_
      dsimp! [j2]
      refine set_lk (r := rows2) ((Sto.del_ne (Ne.symm npl)).trans j1) (by omega) ?_
      refine run_nil ⟨_, _, _, _, _, _, _, rfl, Sto.put_same, ?_, putA_all g3 ⟨hN w (List.mem_of_getElem? hw), j3⟩, ?_, (j4.del ⟨r1, r2, r3⟩).put ⟨q1, q2, q3⟩, (j5.del (.inl fp)).put (.inl fl)⟩
      · have := putA_len lk w rows2; omega
      · rw [take_len hw]; exact has_put g4
    · rintro ρ' S' ⟨x1, x2, x3, x4, x5, x6, lk, rfl, g1, g2, g3, g4, g5, g6⟩
      rw [List.length_map] at g2 g4 g5
      rw [List.take_length] at g4
      exact ⟨trivial, _, _, _, _, _, _, lk, rfl, g1, by omega, g3, g4, g5.mono (by omega), g6⟩
  rintro ρ' S2 ⟨x1, x2, x3, x4, x5, x6, lk, rfl, g1, g2, g3, g4, g5, g6⟩
  refine run_cons ?_
  dsimp!
  intro t ht
  obtain ⟨t1, t2, t3⟩ := g5.new ht
  have ft := g6.fresh (by simp [t2, t3]) ht
  have ntl : l ≠ t := fun z => by rw [← z, g1] at ht; cases ht
  refine cut mG (fun ρ' S' => ∃ (x3 x4 y : Option U) (sp : List (List Nat × List Int)), ρ' = [some (.ref b), some (.lst (ns.map .str)), some (.lst (as.map .str)), some (.int count), some (.ref l), x1, x2, x3, x4, x5, x6, some (.ref t), y, none] ∧ S' l = some (.dct (lk.map lkE)) ∧ S' t = some (.dct (sp.map spE)) ∧ sp.length ≤ 3 ∧ (∀ p ∈ sp, IsWord p.1 ∧ p.2.length < 64 ∧ ∀ y ∈ p.2, 0 ≤ y ∧ y < count) ∧ (∀ w ∈ as, (getA sp w).isSome = true) ∧ Bx b kp c S' (n + 100) ∧ Kp [kp, c] S S') ?_ ?_
  · dsimp!
    refine for_inv mG (fun i ρ' S' => ∃ (x3 x4 y : Option U) (sp : List (List Nat × List Int)), ρ' = [some (.ref b), some (.lst (ns.map .str)), some (.lst (as.map .str)), some (.int count), some (.ref l), x1, x2, x3, x4, x5, x6, some (.ref t), y, none] ∧ S' l = some (.dct (lk.map lkE)) ∧ S' t = some (.dct (sp.map spE)) ∧ sp.length ≤ i ∧ (∀ p ∈ sp, IsWord p.1 ∧ p.2.length < 64 ∧ ∀ y ∈ p.2, 0 ≤ y ∧ y < count) ∧ (∀ w ∈ as.take i, (getA sp w).isSome = true) ∧ Bx b kp c S' (n + 80 + 2 * i) ∧ Kp [kp, c] S S')
      ⟨_, _, _, [], rfl, (Sto.put_ne ntl).trans g1, Sto.put_same, by simp, by simp, by simp, (g5.mono (by omega)).put ⟨t1, t2, t3⟩, g6.put (.inl ft)⟩ ?_ ?_
    · rintro i x ρ' S' hx ⟨y3, y4, y, sp, rfl, f0, f1, f2, f3, f4, f5, f6⟩
      obtain ⟨w, hw, rfl⟩ := strs_map hx
      have hi : i < as.length := (List.getElem?_eq_some_iff.mp hw).1
      refine ⟨trivial, ?_⟩
      dsimp!
      refine run_cons ?_
      dsimp! [h9]
      refine take_ok f5 (by omega) (by decide) (by decide) fun step S3 b0 b1 b2 b3 => ?_
      refine run_cons ?_
      dsimp! [h9]
      refine take_ok b2 (by omega) (by decide) (by decide) fun shift S4 d0 d1 d2 d3 => ?_
      refine run_cons ?_
      dsimp!
      refine ⟨by omega, ?_⟩
      refine lc_by mG (fun j acc S' => S' = S4 ∧ ∃ r : List Int, acc = r.map .int ∧ r.length ≤ j ∧ (r.length = j → ∀ v : Nat, v < j → ((v : Int) * (1 + step) + shift) % 7 < 2) ∧ ∀ y ∈ r, 0 ≤ y ∧ y < count) ⟨rfl, [], rfl, Nat.le_refl _, by simp, by simp⟩ ?_ ?_
      · rintro j x acc S' hx ⟨rfl, r, rfl, r1, r3, r2⟩
        obtain ⟨rfl, hj⟩ := rngU_at hx
        rw [Int.toNat_natCast] at hj
        refine ⟨trivial, ?_⟩
        dsimp! [wipeU]
        refine ⟨.inl (by omega), by omega, ?_⟩
        refine ite2 (fun hyes => ?_) (fun _ => ⟨r, rfl, by omega, fun z => by omega, r2⟩)
        refine ⟨by simp; rw [sizeLine_eq]; omega, r ++ [0 + (j : Int)], by simp, by simp; omega, fun z v hv => ?_, fun y hy => ?_⟩
        · by_cases e : v = j
          · subst e
            rw [Int.zero_add] at hyes; exact hyes
          · exact r3 (by simpa using z) v (by omega)
        · rcases List.mem_append.mp hy with hy | hy
          · exact r2 y hy
          · rw [List.mem_singleton.mp hy]; omega
      · rintro acc S' ⟨rfl, r, rfl, r1, r3, r2⟩
        refine ⟨trivial, ?_⟩
        rw [rngU_length, Int.toNat_natCast] at r1 r3
        have r4 : r.length < 64 := by
          by_cases e : r.length = count
          · have z0 := r3 e 0 (by omega)
            have z1 := r3 e 1 (by omega)
            have z2 := r3 e 2 (by omega)
            simp at z0 z1 z2
            have c1 : step = 0 ∨ step = 1 ∨ step = 2 ∨ step = 3 ∨ step = 4 ∨ step = 5 := by omega
            have c2 : shift = 0 ∨ shift = 1 ∨ shift = 2 ∨ shift = 3 ∨ shift = 4 ∨ shift = 5 ∨ shift = 6 := by omega
            exfalso
            rcases c1 with rfl | rfl | rfl | rfl | rfl | rfl <;> rcases c2 with rfl | rfl | rfl | rfl | rfl | rfl | rfl <;> simp at z0 z1 z2
          · omega
        dsimp!
        have k4 := b3.trans d3
        refine set_sp (r := r) (k4.at f1 (by simp [t2, t3])) (by omega) ?_
        refine run_nil ⟨_, _, _, _, rfl, (Sto.put_ne ntl).trans (k4.at f0 (by simp [q2, q3])), Sto.put_same, ?_, putA_all f3 ⟨hA w (List.mem_of_getElem? hw), r4, r2⟩, ?_, (d2.put ⟨t1, t2, t3⟩).mono (by omega), (f6.trans k4).put (.inl ft)⟩
        · have := putA_len sp w r; omega
        · rw [take_len hw]; exact has_put f4
    · rintro ρ' S' ⟨y3, y4, y, sp, rfl, f0, f1, f2, f3, f4, f5, f6⟩
      rw [List.length_map] at f2 f4 f5
      rw [List.take_length] at f4
      exact ⟨trivial, _, _, _, sp, rfl, f0, f1, by omega, f3, f4, f5.mono (by omega), f6⟩
  rintro ρ' S3 ⟨y3, y4, y, sp, rfl, f0, f1, f2, f3, f4, f5, f6⟩
  refine run_cons ?_
  dsimp!
  refine ⟨_, _, frz_lk f0, _, _, frz_sp ((delS_ne (by simp [Ne.symm ntl])).trans f1), ?_⟩
  exact k ⟨count, lk, sp⟩ _ ⟨by show 1 ≤ count; omega, hc2, fun p hp => ⟨(g3 p hp).1, (g3 p hp).2.1, fun r hr => ⟨by have := ((g3 p hp).2.2 r hr).1; omega, ((g3 p hp).2.2 r hr).2⟩⟩, fun p hp => ⟨(f3 p hp).1, (f3 p hp).2.1, fun (z : count ≤ 5) => by omega, (f3 p hp).2.2⟩, by show lk.length ≤ 5; omega, by show sp.length ≤ 5; omega⟩ ⟨g4, f4⟩
    (((f5.dels (by simp [q1, q2, q3])).dels (by simp [t1, t2, t3])).mono (by omega)) ((f6.delS (by simp [fl])).delS (by simp [ft]))
end K22
namespace K22
open PySem PySem.Spec PyProof.Rows L2 Mm
theorem ints_inj : ∀ {a b : List Int}, a.map U.int = b.map U.int → a = b
  | [], [], _ => rfl
  | [], _ :: _, h => by simp at h
  | _ :: _, [], h => by simp at h
  | x :: a, y :: b, h => by
    simp only [List.map_cons, List.cons.injEq, U.int.injEq] at h
    rw [h.1, ints_inj h.2]
/-- mutable rows at rs, at most m in each -/
def RefRows (S0 S : Sto) (count m : Nat) (rs : List Addr) : Prop := rs.length = count ∧ ∀ r ∈ rs, S0 r = none ∧ ∃ ys : List Int, S r = some (.lst (ys.map .int)) ∧ ys.length ≤ m ∧ ∀ y ∈ ys, 0 ≤ y ∧ y < count
theorem RefRows.kp {S0 S S' : Sto} {X : List Addr} {count m : Nat} {rs : List Addr} (h : RefRows S0 S count m rs) (k : Kp X S S') (n : ∀ a ∈ X, ∃ o, S0 a = some o) : RefRows S0 S' count m rs := ⟨h.1, fun r hr => by
  obtain ⟨h1, ys, h2, h3⟩ := h.2 r hr
  refine ⟨h1, ys, k r _ h2 fun z => ?_, h3⟩
  obtain ⟨o, e⟩ := n r z
  rw [h1] at e; cases e⟩
theorem RefRows.mono {S0 S : Sto} {count m m' : Nat} {rs : List Addr} (h : RefRows S0 S count m rs) (l : m ≤ m') : RefRows S0 S count m' rs := ⟨h.1, fun r hr => by
  obtain ⟨h1, ys, h2, h3, h4⟩ := h.2 r hr
  exact ⟨h1, ys, h2, by omega, h4⟩⟩
/-- one row is longer -/
theorem RefRows.app {S0 S : Sto} {count m : Nat} {rs : List Addr} {p : Addr} {ys : List Int} {y : Int} (h : RefRows S0 S count m rs) (hp : p ∈ rs) (e : S p = some (.lst (ys.map .int))) (hy : 0 ≤ y ∧ y < count) : RefRows S0 (S.put p (.lst (ys.map .int ++ [.int y]))) count (m + 1) rs := ⟨h.1, fun r hr => by
  obtain ⟨h1, zs, h2, h3, h4⟩ := h.2 r hr
  by_cases z : r = p
  · subst z
    rw [e] at h2
    have e2 : ys = zs := by
      have h2 := Option.some.inj h2
      injection h2 with h2
      exact ints_inj h2
    subst e2
    refine ⟨h1, ys ++ [y], by rw [Sto.put_same]; simp, by simp; omega, fun x hx => ?_⟩
    rcases List.mem_append.mp hx with hx | hx
    · exact h4 x hx
    · rw [List.mem_singleton.mp hx]; exact hy
  · exact ⟨h1, zs, (Sto.put_ne z).trans h2, by omega, h4⟩⟩
theorem RefRows.put {S0 S : Sto} {count m : Nat} {rs : List Addr} {p : Addr} {o o' : Ob} (h : RefRows S0 S count m rs) (hp : S p = some o') (no : ∀ xs, o' ≠ .lst xs) : RefRows S0 (S.put p o) count m rs := ⟨h.1, fun r hr => by
  obtain ⟨h1, zs, h2, h3⟩ := h.2 r hr
  have : r ≠ p := fun z => by
    rw [z, hp] at h2
    exact no _ (Option.some.inj h2)
  exact ⟨h1, zs, (Sto.put_ne this).trans h2, h3⟩⟩
/-- [[] for ..] -/
theorem new_rows {G : GV} (mG : GMono G) {ρ : Mm.Env} {S : Sto} {R : Post} {count : Nat} {own : List Nat} {v : Nat} (hc : count ≤ 64) (k : ∀ (rs : List Addr) S', Kp [] S S' → rs.length = count → (∀ r ∈ rs, S r = none ∧ S' r = some (.lst [])) → rs.Nodup → R (.lst (rs.map .ref)) S') :
    lcG G false own (.one v) (fun _ => True) .yes (.lst true .nil) R ρ (rngU 0 count) [] S := by
  refine lc_by mG (fun j acc S' => ∃ rs : List Addr, acc = rs.map .ref ∧ Kp [] S S' ∧ rs.length = j ∧ (∀ r ∈ rs, S r = none ∧ S' r = some (.lst [])) ∧ rs.Nodup) ⟨[], rfl, Kp.refl, rfl, by simp, List.nodup_nil⟩ ?_ ?_
  · rintro j x acc S' hx ⟨rs, rfl, h1, h2, h3, h4⟩
    obtain ⟨rfl, hj⟩ := rngU_at hx
    refine ⟨trivial, ?_⟩
    show (0 : Nat) ≤ sizeLine ∧ alloc true [] S' _
    refine ⟨Nat.zero_le _, ?_⟩
    rw [n_al1]
    intro p hp
    have fp := h1.fresh (by simp) hp
    refine ⟨by simp; rw [sizeLine_eq]; omega, rs ++ [p], by simp, h1.put (.inl fp), by simp [h2], fun r hr => ?_, ?_⟩
    rotate_left
    · refine List.nodup_append.mpr ⟨h4, by simp, fun a ha b hb e => ?_⟩
      rw [List.mem_singleton.mp hb] at e
      have := (h3 a ha).2
      rw [e, hp] at this; cases this
    rcases List.mem_append.mp hr with hr | hr
    · obtain ⟨a1, a2⟩ := h3 r hr
      have : r ≠ p := fun z => by rw [z, hp] at a2; cases a2
      exact ⟨a1, (Sto.put_ne this).trans a2⟩
    · rw [List.mem_singleton.mp hr]; exact ⟨fp, Sto.put_same⟩
  · rintro acc S' ⟨rs, rfl, h1, h2, h3, h4⟩
    rw [rngU_length] at h2
    exact ⟨trivial, k rs S' h1 h2 h3 h4⟩
/-- the dict under way -/
def ChE (S0 S : Sto) (count : Nat) (kvs : List (L2.Key × U)) : Prop := ∀ kv ∈ kvs, ∃ (w : List Nat) (rs : List Addr), kv = (key w, .lst (rs.map .ref)) ∧ IsName w ∧ RefRows S0 S count 50 rs
theorem ChE.kp {S0 S S' : Sto} {X : List Addr} {count : Nat} {kvs : List (L2.Key × U)} (h : ChE S0 S count kvs) (k : Kp X S S') (n : ∀ a ∈ X, ∃ o, S0 a = some o) : ChE S0 S' count kvs := fun kv hk => by
  obtain ⟨w, rs, h1, h2, h3⟩ := h kv hk
  exact ⟨w, rs, h1, h2, h3.kp k n⟩
theorem ChE.put {S0 S : Sto} {count : Nat} {kvs : List (L2.Key × U)} {p : Addr} {o o' : Ob} (h : ChE S0 S count kvs) (hp : S p = some o') (no : ∀ xs, o' ≠ .lst xs) : ChE S0 (S.put p o) count kvs := fun kv hk => by
  obtain ⟨w, rs, h1, h2, h3⟩ := h kv hk
  exact ⟨w, rs, h1, h2, h3.put hp no⟩
/-- rows that are touched: in a longer row -/
theorem ChE.app {S0 S : Sto} {count : Nat} {kvs : List (L2.Key × U)} {p : Addr} {ys : List Int} {y : Int} (h : ∀ kv ∈ kvs, ∃ (w : List Nat) (rs : List Addr), kv = (key w, .lst (rs.map .ref)) ∧ IsName w ∧ RefRows S0 S count 50 rs ∧ p ∉ rs) : ChE S0 (S.put p (.lst (ys.map .int ++ [.int y]))) count kvs := fun kv hk => by
  obtain ⟨w, rs, h1, h2, h3, h4⟩ := h kv hk
  refine ⟨w, rs, h1, h2, h3.1, fun r hr => ?_⟩
  obtain ⟨a1, zs, a2, a3⟩ := h3.2 r hr
  have : r ≠ p := fun z => h4 (z ▸ hr)
  exact ⟨a1, zs, (Sto.put_ne this).trans a2, a3⟩
/-- frozen rows -/
theorem frz_rows {S0 S : Sto} {count m : Nat} : ∀ {rs : List Addr}, (∀ r ∈ rs, S0 r = none ∧ ∃ ys : List Int, S r = some (.lst (ys.map .int)) ∧ ys.length ≤ m ∧ ∀ y ∈ ys, 0 ≤ y ∧ y < (count : Int)) → ∃ (rows : List (List Int)) (D : List Addr), Dfzs S (rs.map .ref) (rows.map intsU) D ∧ rows.length = rs.length ∧ (∀ p ∈ D, S0 p = none) ∧ ∀ r ∈ rows, r.length ≤ m ∧ ∀ y ∈ r, 0 ≤ y ∧ y < (count : Int)
  | [], _ => ⟨[], [], .nil, rfl, by simp, by simp⟩
  | r :: rs, h => by
    obtain ⟨rows, D, h1, h2, h3, h4⟩ := frz_rows fun x hx => h x (List.mem_cons_of_mem _ hx)
    obtain ⟨a1, ys, a2, a3, a4⟩ := h r List.mem_cons_self
    obtain ⟨D2, b1, rfl⟩ := Dfzs.dats (S := S) (ys.map U.int)
    refine ⟨ys :: rows, [r] ++ D, .cons (.lst a2 b1) h1, by simp [h2], fun p hp => ?_, fun x hx => ?_⟩
    · rcases List.mem_append.mp hp with hp | hp
      · rw [List.mem_singleton.mp hp]; exact a1
      · exact h3 p hp
    · rcases List.mem_cons.mp hx with rfl | hx
      · exact ⟨a3, a4⟩
      · exact h4 x hx
theorem frz_ch {S0 S : Sto} {count : Nat} : ∀ {kvs : List (L2.Key × U)}, ChE S0 S count kvs → ∃ (lk : List (List Nat × List (List Int))) (D : List Addr), Dfzs S (kvs.map (·.2)) (lk.map fun p => rowsU p.2) D ∧ kvs.map (·.1) = lk.map (fun p => key p.1) ∧ (∀ p ∈ D, S0 p = none) ∧ ∀ p ∈ lk, IsName p.1 ∧ RowsOk count 50 p.2
  | [], _ => ⟨[], [], .nil, rfl, by simp, by simp⟩
  | kv :: kvs, h => by
    obtain ⟨lk, D, h1, h2, h3, h4⟩ := frz_ch (kvs := kvs) fun x hx => h x (List.mem_cons_of_mem _ hx)
    obtain ⟨w, rs, rfl, a2, a3⟩ := h _ List.mem_cons_self
    obtain ⟨rows, D2, b1, b2, b3, b4⟩ := frz_rows a3.2
    refine ⟨(w, rows) :: lk, D2 ++ D, .cons (.inl b1) h1, by simp [h2], fun p hp => ?_, fun p hp => ?_⟩
    · rcases List.mem_append.mp hp with hp | hp
      · exact b3 p hp
      · exact h3 p hp
    · rcases List.mem_cons.mp hp with rfl | hp
      · exact ⟨a2, b2.trans a3.1, b4⟩
      · exact h4 p hp
theorem has_key {κ α : Type} [DecidableEq κ] {q : κ} : ∀ {l : List (κ × α)}, (getA l q).isSome = true ↔ q ∈ l.map (·.1)
  | [] => by simp [getA]
  | p :: l => by
    have ih := has_key (q := q) (l := l)
    unfold getA at *
    rw [List.find?_cons, List.map_cons, List.mem_cons]
    by_cases e : p.1 = q
    · simp [e]
    · have e' : ¬ q = p.1 := fun z => e z.symm
      simp only [e, decide_false, e', false_or]
      exact ih
/-- the keys that are there -/
theorem keys_has {kvs : List (L2.Key × U)} {lk : List (List Nat × List (List Int))} (h : kvs.map (·.1) = lk.map (fun p => key p.1)) {w : List Nat} (hw : (getA kvs (key w)).isSome = true) : (getA lk w).isSome = true := by
  rw [has_key, h] at hw
  rw [has_key]
  obtain ⟨p, hp, e⟩ := List.mem_map.mp hw
  exact List.mem_map.mpr ⟨p, hp, key_inj e⟩
theorem ix_dct {S : Sto} {R : Post} {p : Addr} {kvs : List (L2.Key × U)} {w : List Nat} {u : U} (h : S p = some (.dct kvs)) (hg : getA kvs (key w) = some u) (k : R u S) : idxW (.ref p) (.str w) S R := ⟨kvs, u, by simp only [dctOf, h], hg, k⟩
theorem body_chain (G : GV) (mG : GMono G) (h9 : G.fns[9]? = some spTake) : ∀ us S R RX, us.length = pr_law_chain.length → (spDr 200).sp us S R RX → wCms G (fun x _ S' => RX x S') ir_law_chain (startU nm_law_chain us) S { nx := fun _ S' => R .non S', rt := R } := by
  rintro us S R RX - ⟨b, kp, c, n, ns, as, rfl, hb, hn, ne, l1, l2, hN, hA, k⟩
  have e0 : startU nm_law_chain [.ref b, .lst (ns.map .str), .lst (as.map .str)] = [some (.ref b), some (.lst (ns.map .str)), some (.lst (as.map .str)), none, none, none, none, none, none, none, none, none, none, none] := rfl
  rw [e0]
  unfold ir_law_chain
  have hX : ∀ a ∈ [kp, c], ∃ o, S a = some o := by
    obtain ⟨kept, sm, cnt, _, hk, hc, _⟩ := hb
    intro a ha
    simp at ha
    rcases ha with rfl | rfl
    · exact ⟨_, hk⟩
    · exact ⟨_, hc⟩
  refine run_cons ?_
  dsimp! [h9]
  refine take_ok hb (by omega) (by decide) (by decide) fun c5 S1 a0 a1 hb1 k1 => ?_
  dsimp!
  obtain ⟨count, hcount⟩ : ∃ count : Nat, 6 + c5 = count := ⟨(6 + c5).toNat, by omega⟩
  rw [hcount]
  have hc1 : 6 ≤ count := by omega
  have hc2 : count ≤ 20 := by omega
  refine run_cons ?_
  dsimp! [h9]
  refine take_ok hb1 (by omega) (by omega) (by omega) fun shift S2 b0 b1 hb2 k2 => ?_
  refine run_cons ?_
  dsimp! [h9]
  refine take_ok hb2 (by omega) (by decide) (by decide) fun tn S3 d0 d1 hb3 k3 => ?_
  dsimp!
  refine ⟨.inl (by omega), ?_⟩
  have k03 := (k1.trans k2).trans k3
  generalize hturn : 1 - 2 * tn = turn
  have ht : -1 ≤ turn ∧ turn ≤ 1 := by omega
  refine run_cons ?_
  dsimp!
  refine ⟨by omega, ?_⟩
  refine lc_by mG (fun j acc S' => S' = S3 ∧ ∃ r : List Int, acc = r.map .int ∧ r.length = j ∧ ∀ y ∈ r, 0 ≤ y ∧ y < count) ⟨rfl, [], rfl, rfl, by simp⟩ ?_ ?_
  · rintro j x acc S' hx ⟨rfl, r, rfl, r1, r2⟩
    obtain ⟨rfl, hj⟩ := rngU_at hx
    rw [Int.toNat_natCast] at hj
    refine ⟨trivial, ?_⟩
    dsimp! [wipeU]
    refine ⟨.inl (by omega), by omega, by simp; rw [sizeLine_eq]; omega, r ++ [_], by simp; rfl, by simp [r1], fun y hy => ?_⟩
    rcases List.mem_append.mp hy with hy | hy
    · exact r2 y hy
    · rw [List.mem_singleton.mp hy]
      exact ⟨Int.emod_nonneg _ (by omega), Int.emod_lt_of_pos _ (by omega)⟩
  rintro acc S' ⟨rfl, ord, rfl, o1, o2⟩
  refine ⟨trivial, ?_⟩
  rw [rngU_length, Int.toNat_natCast] at o1
  dsimp!
  have ordAt : ∀ (i : Int) (R : U → Prop), 0 ≤ i → i < count → (∀ z : Int, 0 ≤ z → z < count → R (.int z)) → ∃ u, L2.atI (ord.map U.int) i = some u ∧ R u := fun i R h0 h1 hk => by
    obtain ⟨z, hz, e⟩ := atI_map (xs := ord) h0 (by omega)
    exact ⟨_, e, hk z (o2 z hz).1 (o2 z hz).2⟩
  refine run_cons ?_
  dsimp!
  intro l hl
  obtain ⟨q1, q2, q3⟩ := hb3.new hl
  have fl := k03.fresh (by simp [q2, q3]) hl
  refine cut mG (fun ρ' S' => ∃ (x : Option U) (kvs : List (L2.Key × U)), ρ' = [some (.ref b), some (.lst (ns.map .str)), some (.lst (as.map .str)), some (.int count), some (.int shift), some (.int turn), some (.lst (ord.map .int)), some (.ref l), x, none, none, none, none, none] ∧ S' l = some (.dct kvs) ∧ kvs.length ≤ 3 ∧ ChE S S' count kvs ∧ (∀ w ∈ ns, (getA kvs (key w)).isSome = true) ∧ Bx b kp c S' (n + 20) ∧ Kp [kp, c] S S') ?_ ?_
  · dsimp!
    refine for_inv mG (fun i ρ' S' => ∃ (x : Option U) (kvs : List (L2.Key × U)), ρ' = [some (.ref b), some (.lst (ns.map .str)), some (.lst (as.map .str)), some (.int count), some (.int shift), some (.int turn), some (.lst (ord.map .int)), some (.ref l), x, none, none, none, none, none] ∧ S' l = some (.dct kvs) ∧ kvs.length ≤ i ∧ ChE S S' count kvs ∧ (∀ w ∈ ns.take i, (getA kvs (key w)).isSome = true) ∧ Bx b kp c S' (n + 3 + 2 * i) ∧ Kp [kp, c] S S')
      ⟨_, [], rfl, Sto.put_same, by simp, fun _ h => by simp at h, by simp, (hb3.mono (by omega)).put ⟨q1, q2, q3⟩, k03.put (.inl fl)⟩ ?_ ?_
    · rintro i x ρ' S' hx ⟨y, kvs, rfl, g1, g2, g3, g4, g5, g6⟩
      obtain ⟨w, hw, rfl⟩ := strs_map hx
      have hi : i < ns.length := (List.getElem?_eq_some_iff.mp hw).1
      refine ⟨trivial, ?_⟩
      dsimp!
      refine run_cons ?_
      dsimp!
      refine ⟨by omega, ?_⟩
      rw [Int.toNat_natCast]
      refine new_rows mG (by omega) fun rs S4 k4 r1 r2 _ => ?_
      have g7 : S4 l = some (.dct kvs) := k4 l _ g1 (by simp)
      rw [n_setS, g7]
      refine ⟨by rw [sizeLine_eq]; omega, ?_⟩
      show wCms _ _ _ _ (S4.put l (.dct (putA kvs (key w) (.lst (rs.map .ref))))) _
      have fr : ∀ r ∈ rs, S r = none := fun r hr => by
        cases e : S r with
        | none => rfl
        | some o =>
          by_cases m : r ∈ [kp, c]
          · obtain ⟨t1, t2, t3⟩ := g5.new (r2 r hr).1
            simp [t2, t3] at m
          · have := g6 r o e m
            rw [(r2 r hr).1] at this; cases this
      have g8 : ChE S S4 count kvs := g3.kp k4 (by simp)
      have rr : RefRows S S4 count 0 rs := ⟨r1, fun r hr => ⟨fr r hr, [], (r2 r hr).2, by simp, by simp⟩⟩
      have k5 : Kp [kp, c] S (S4.put l (.dct (putA kvs (key w) (.lst (rs.map .ref))))) := (g6.trans fun a o e m => k4 a o e (by simp)).put (.inl fl)
      have b5 : Bx b kp c (S4.put l (.dct (putA kvs (key w) (.lst (rs.map .ref))))) (n + 3 + 2 * i) := (g5.kp fun a o e => k4 a o e (by simp)).put ⟨q1, q2, q3⟩
      have rr5 : RefRows S (S4.put l (.dct (putA kvs (key w) (.lst (rs.map .ref))))) count 0 rs := rr.put g7 (by simp)
      refine run_cons ?_
      dsimp! [h9]
      refine ix_dct Sto.put_same (by rw [getA_put, if_pos rfl]) ?_
      refine take_ok b5 (by omega) (by omega) (by omega) fun i1 S6 e0 e1 b6 k6 => ?_
      refine ix_refs e0 (by omega) fun p hp => ?_
      obtain ⟨p0, ys, p1, p2, p3⟩ := (rr5.kp k6 hX).2 p hp
      have y0 : ys = [] := List.length_eq_zero_iff.mp (by omega)
      subst y0
      dsimp! [p1]
      refine take_ok b6 (by omega) (by omega) (by omega) fun i2 S7 e2 e3 b7 k7 => ?_
      have rr7 := (rr5.kp k6 hX).kp k7 hX
      have p4 : S7 p = some (.lst (([] : List Int).map .int)) := k7 p _ p1 fun z => by obtain ⟨o, e⟩ := hX p z; rw [p0] at e; cases e
      dsimp! [p4]
      refine ⟨by rw [sizeLine_eq]; simp, ?_⟩
      have lk : S7 l = some (.dct (putA kvs (key w) (.lst (rs.map .ref)))) := (k6.trans k7) l _ Sto.put_same (by simp [q2, q3])
      have nlp : l ≠ p := fun z => by rw [z, p4] at lk; cases lk
      obtain ⟨t1, t2, t3⟩ : p ≠ b ∧ p ≠ kp ∧ p ≠ c := by
        have := (r2 p hp).1
        exact g5.new this
      refine run_nil ⟨_, _, rfl, (Sto.put_ne nlp).trans lk, ?_, ?_, ?_, (b7.put ⟨t1, t2, t3⟩).mono (by omega), ((k5.trans k6).trans k7).put (.inl p0)⟩
      · have := putA_len kvs (key w) (U.lst (rs.map .ref)); omega
      · have old : ChE S S7 count kvs := ((g8.put g7 (by simp)).kp k6 hX).kp k7 hX
        refine putA_all (P := fun kv : L2.Key × U => ∃ (w : List Nat) (rs : List Addr), kv = (key w, .lst (rs.map .ref)) ∧ IsName w ∧ RefRows S (S7.put p (.lst (([] : List Int).map .int ++ [.int i2]))) count 50 rs) (fun kv hk => ?_) ⟨w, rs, rfl, hN w (List.mem_of_getElem? hw), (rr7.app hp p4 ⟨e2, e3⟩).mono (by omega)⟩
        obtain ⟨w', rs', f1, f2, f3⟩ := old kv hk
        refine ⟨w', rs', f1, f2, f3.1, fun r hr => ?_⟩
        -- an older entry's rows stood before this one's were made
        obtain ⟨w2, rs2, u1, u2, u3⟩ := g3 kv hk
        have er : rs' = rs2 := by
          rw [f1] at u1
          have := (Prod.mk.inj u1).2
          injection this with this
          have inj : ∀ {a b : List Addr}, a.map U.ref = b.map U.ref → a = b := by
            intro a
            induction a with
            | nil => intro b h; cases b with
              | nil => rfl
              | cons _ _ => simp at h
            | cons x a ih => intro b h; cases b with
              | nil => simp at h
              | cons y b =>
                simp only [List.map_cons, List.cons.injEq, U.ref.injEq] at h
                rw [h.1, ih h.2]
          exact inj this
        obtain ⟨v0, zs, v1, _⟩ := u3.2 r (er ▸ hr)
        have nrp : r ≠ p := fun z => by rw [z, (r2 p hp).1] at v1; cases v1
        obtain ⟨a1, zs, a2, a3⟩ := f3.2 r hr
        exact ⟨a1, zs, (Sto.put_ne nrp).trans a2, a3⟩
      · rw [take_len hw]
        intro v hv
        rw [getA_put]
        by_cases e : key v = key w
        · rw [if_pos e]; rfl
        · rw [if_neg e]
          rcases List.mem_append.mp hv with hv | hv
          · exact g4 v hv
          · exact absurd (by rw [List.mem_singleton.mp hv]) e
    · rintro ρ' S' ⟨x, kvs, rfl, g1, g2, g3, g4, g5, g6⟩
      rw [List.length_map] at g2 g4 g5
      rw [List.take_length] at g4
      exact ⟨trivial, _, kvs, rfl, g1, by omega, g3, g4, g5.mono (by omega), g6⟩
  rintro ρ' S4 ⟨x, kvs, rfl, g1, g2, g3, g4, g5, g6⟩
  refine run_cons ?_
  dsimp!
  refine ⟨by omega, ?_⟩
  rw [Int.toNat_natCast]
  refine new_rows mG (by omega) fun rs S5 k5 r1 r2 _ => ?_
  have k05 : Kp [kp, c] S S5 := g6.trans fun a o e m => k5 a o e (by simp)
  have b5 : Bx b kp c S5 (n + 20) := g5.kp fun a o e => k5 a o e (by simp)
  have fr : ∀ r ∈ rs, S r = none := fun r hr => by
    cases e : S r with
    | none => rfl
    | some o =>
      by_cases m : r ∈ [kp, c]
      · obtain ⟨t1, t2, t3⟩ := g5.new (r2 r hr).1
        simp [t2, t3] at m
      · have := g6 r o e m
        rw [(r2 r hr).1] at this; cases this
  have rr : RefRows S S5 count 0 rs := ⟨r1, fun r hr => ⟨fr r hr, [], (r2 r hr).2, by simp, by simp⟩⟩
  -- older rows stand apart
  have apart : ∀ kv ∈ kvs, ∃ (w : List Nat) (rs' : List Addr), kv = (key w, .lst (rs'.map .ref)) ∧ IsName w ∧ RefRows S S5 count 50 rs' ∧ ∀ r ∈ rs, r ∉ rs' := fun kv hk => by
    obtain ⟨w, rs', h1, h2, h3⟩ := g3 kv hk
    refine ⟨w, rs', h1, h2, h3.kp k5 (by simp), fun r hr m => ?_⟩
    obtain ⟨_, zs, v, _⟩ := h3.2 r m
    rw [(r2 r hr).1] at v; cases v
  have gl5 : S5 l = some (.dct kvs) := k5 l _ g1 (by simp)
  refine cut mG (fun ρ' S' => ∃ (y : Option U), ρ' = [some (.ref b), some (.lst (ns.map .str)), some (.lst (as.map .str)), some (.int count), some (.int shift), some (.int turn), some (.lst (ord.map .int)), some (.ref l), x, some (.lst (rs.map .ref)), y, none, none, none] ∧ S' l = some (.dct kvs) ∧ RefRows S S' count 40 rs ∧ (∀ kv ∈ kvs, ∃ (w : List Nat) (rs' : List Addr), kv = (key w, .lst (rs'.map .ref)) ∧ IsName w ∧ RefRows S S' count 50 rs' ∧ ∀ r ∈ rs, r ∉ rs') ∧ Bx b kp c S' (n + 20) ∧ Kp [kp, c] S S') ?_ ?_
  · dsimp!
    refine ⟨by omega, ?_⟩
    refine for_inv mG (fun i ρ' S' => ∃ (y : Option U), ρ' = [some (.ref b), some (.lst (ns.map .str)), some (.lst (as.map .str)), some (.int count), some (.int shift), some (.int turn), some (.lst (ord.map .int)), some (.ref l), x, some (.lst (rs.map .ref)), y, none, none, none] ∧ S' l = some (.dct kvs) ∧ RefRows S S' count i rs ∧ (∀ kv ∈ kvs, ∃ (w : List Nat) (rs' : List Addr), kv = (key w, .lst (rs'.map .ref)) ∧ IsName w ∧ RefRows S S' count 50 rs' ∧ ∀ r ∈ rs, r ∉ rs') ∧ Bx b kp c S' (n + 20) ∧ Kp [kp, c] S S')
      ⟨_, rfl, gl5, rr, apart, b5, k05⟩ ?_ ?_
    · rintro i z ρ' S' hx ⟨y, rfl, j1, j2, j3, j4, j5⟩
      obtain ⟨rfl, hi⟩ := rngU_at hx
      refine ⟨trivial, ?_⟩
      dsimp!
      refine run_cons ?_
      dsimp!
      refine ordAt _ _ (by omega) (by omega) fun i1 e0 e1 => ?_
      refine ix_refs e0 (by omega) fun p hp => ?_
      obtain ⟨p0, ys, p1, p2, p3⟩ := j2.2 p hp
      dsimp! [p1]
      refine ordAt _ _ (by omega) (by omega) fun i2 e2 e3 => ?_
      refine ⟨by simp; rw [sizeLine_eq]; omega, ?_⟩
      have nlp : l ≠ p := fun z => by rw [z, p1] at j1; cases j1
      obtain ⟨t1, t2, t3⟩ : p ≠ b ∧ p ≠ kp ∧ p ≠ c := hb.new p0
      refine run_nil ⟨_, rfl, (Sto.put_ne nlp).trans j1, j2.app hp p1 ⟨e2, e3⟩, fun kv hk => ?_, j4.put ⟨t1, t2, t3⟩, j5.put (.inl p0)⟩
      obtain ⟨w, rs', h1, h2, h3, h4⟩ := j3 kv hk
      refine ⟨w, rs', h1, h2, ⟨h3.1, fun r hr => ?_⟩, h4⟩
      have nrp : r ≠ p := fun z => h4 p hp (z ▸ hr)
      obtain ⟨a1, zs, a2, a3⟩ := h3.2 r hr
      exact ⟨a1, zs, (Sto.put_ne nrp).trans a2, a3⟩
    · rintro ρ' S' ⟨y, rfl, j1, j2, j3, j4, j5⟩
      rw [rngU_length] at j2
      exact ⟨trivial, _, rfl, j1, j2.mono (by omega), j3, j4, j5⟩
  rintro ρ' S6 ⟨y, rfl, j1, j2, j3, j4, j5⟩
  refine run_cons ?_
  dsimp! [h9]
  refine ⟨.inl (by omega), ?_⟩
  refine take_ok j4 (by omega) (by omega) (by omega) fun back S7 e0 e1 b7 k7 => ?_
  have m1 := k7 l _ j1 (by simp [q2, q3])
  have m2 := j2.kp k7 hX
  have m3 : ∀ kv ∈ kvs, ∃ (w : List Nat) (rs' : List Addr), kv = (key w, .lst (rs'.map .ref)) ∧ IsName w ∧ RefRows S S7 count 50 rs' ∧ ∀ r ∈ rs, r ∉ rs' := fun kv hk => by
    obtain ⟨w, rs', h1, h2, h3, h4⟩ := j3 kv hk
    exact ⟨w, rs', h1, h2, h3.kp k7 hX, h4⟩
  refine cut mG (fun ρ' S' => ρ' = [some (.ref b), some (.lst (ns.map .str)), some (.lst (as.map .str)), some (.int count), some (.int shift), some (.int turn), some (.lst (ord.map .int)), some (.ref l), x, some (.lst (rs.map .ref)), y, some (.int back), none, none] ∧ S' l = some (.dct kvs) ∧ RefRows S S' count 41 rs ∧ ChE S S' count kvs ∧ Bx b kp c S' (n + 21) ∧ Kp [kp, c] S S') ?_ ?_
  · dsimp!
    refine ite2 (fun hbk => ?_) (fun hbk => run_nil ⟨rfl, m1, m2.mono (by omega), fun kv hk => ?_, b7.mono (by omega), j5.trans k7⟩)
    · refine run_cons ?_
      dsimp!
      refine ordAt _ _ (by omega) (by omega) fun i1 e2 e3 => ?_
      refine ix_refs e2 (by omega) fun p hp => ?_
      obtain ⟨p0, ys, p1, p2, p3⟩ := m2.2 p hp
      dsimp! [p1]
      refine ordAt _ _ (by omega) (by omega) fun i2 e4 e5 => ?_
      refine ⟨by simp; rw [sizeLine_eq]; omega, ?_⟩
      have nlp : l ≠ p := fun z => by rw [z, p1] at m1; cases m1
      obtain ⟨t1, t2, t3⟩ : p ≠ b ∧ p ≠ kp ∧ p ≠ c := hb.new p0
      refine run_nil ⟨rfl, (Sto.put_ne nlp).trans m1, m2.app hp p1 ⟨e4, e5⟩, ChE.app fun kv hk => ?_, (b7.put ⟨t1, t2, t3⟩).mono (by omega), (j5.trans k7).put (.inl p0)⟩
      obtain ⟨w, rs', h1, h2, h3, h4⟩ := m3 kv hk
      exact ⟨w, rs', h1, h2, h3, h4 p hp⟩
    · obtain ⟨w, rs', h1, h2, h3, h4⟩ := m3 kv hk
      exact ⟨w, rs', h1, h2, h3⟩
  rintro ρ' S8 ⟨rfl, n1, n2, n3, n4, n5⟩
  obtain ⟨w0, ws, rfl⟩ : ∃ w0 ws, ns = w0 :: ws := by
    cases ns with
    | nil => exact absurd rfl ne
    | cons w ws => exact ⟨w, ws, rfl⟩
  refine run_cons ?_
  dsimp!
  rw [n_setS, n1]
  refine ⟨by rw [sizeLine_eq]; omega, ?_⟩
  show wCms _ _ _ _ (S8.put l (.dct (putA kvs (key w0) (.lst (rs.map .ref))))) _
  have ch9 : ChE S (S8.put l (.dct (putA kvs (key w0) (.lst (rs.map .ref))))) count (putA kvs (key w0) (.lst (rs.map .ref))) :=
    putA_all (P := fun kv : L2.Key × U => ∃ (w : List Nat) (rs' : List Addr), kv = (key w, .lst (rs'.map .ref)) ∧ IsName w ∧ RefRows S (S8.put l (.dct (putA kvs (key w0) (.lst (rs.map .ref))))) count 50 rs') (n3.put n1 (by simp)) ⟨w0, rs, rfl, hN w0 List.mem_cons_self, (n2.put n1 (by simp)).mono (by omega)⟩
  have len9 : (putA kvs (key w0) (U.lst (rs.map .ref))).length ≤ 4 := by have := putA_len kvs (key w0) (U.lst (rs.map .ref)); omega
  have has9 : ∀ w ∈ w0 :: ws, (getA (putA kvs (key w0) (U.lst (rs.map .ref))) (key w)).isSome = true := fun v hv => by
    rw [getA_put]
    by_cases e : key v = key w0
    · rw [if_pos e]; rfl
    · rw [if_neg e]; exact g4 v hv
  have b9 : Bx b kp c (S8.put l (.dct (putA kvs (key w0) (.lst (rs.map .ref))))) (n + 21) := n4.put ⟨q1, q2, q3⟩
  have k9 : Kp [kp, c] S (S8.put l (.dct (putA kvs (key w0) (.lst (rs.map .ref))))) := n5.put (.inl fl)
  generalize hkv9 : putA kvs (key w0) (U.lst (rs.map .ref)) = kv9 at ch9 len9 has9 b9 k9 ⊢
  generalize hS9 : S8.put l (.dct kv9) = S9 at ch9 b9 k9 ⊢
  have l9 : S9 l = some (.dct kv9) := by rw [← hS9]; exact Sto.put_same
  refine run_cons ?_
  dsimp!
  intro t ht
  obtain ⟨t1, t2, t3⟩ := b9.new ht
  have ft := k9.fresh (by simp [t2, t3]) ht
  have ntl : l ≠ t := fun z => by rw [← z, l9] at ht; cases ht
  have chT : ChE S (S9.put t (.dct [])) count kv9 := ch9.kp (X := []) (Kp.refl.put (.inl ht)) (by simp)
  refine cut mG (fun ρ' S' => ∃ (z : Option U) (sp : List (List Nat × List Int)), ρ' = [some (.ref b), some (.lst ((w0 :: ws).map .str)), some (.lst (as.map .str)), some (.int count), some (.int shift), some (.int turn), some (.lst (ord.map .int)), some (.ref l), x, some (.lst (rs.map .ref)), y, some (.int back), some (.ref t), z] ∧ S' l = some (.dct kv9) ∧ ChE S S' count kv9 ∧ S' t = some (.dct (sp.map spE)) ∧ sp.length ≤ 3 ∧ (∀ p ∈ sp, IsWord p.1 ∧ p.2.length ≤ 1 ∧ ∀ y ∈ p.2, 0 ≤ y ∧ y < count) ∧ (∀ w ∈ as, (getA sp w).isSome = true) ∧ Bx b kp c S' (n + 100) ∧ Kp [kp, c] S S') ?_ ?_
  · dsimp!
    refine for_inv mG (fun i ρ' S' => ∃ (z : Option U) (sp : List (List Nat × List Int)), ρ' = [some (.ref b), some (.lst ((w0 :: ws).map .str)), some (.lst (as.map .str)), some (.int count), some (.int shift), some (.int turn), some (.lst (ord.map .int)), some (.ref l), x, some (.lst (rs.map .ref)), y, some (.int back), some (.ref t), z] ∧ S' l = some (.dct kv9) ∧ ChE S S' count kv9 ∧ S' t = some (.dct (sp.map spE)) ∧ sp.length ≤ i ∧ (∀ p ∈ sp, IsWord p.1 ∧ p.2.length ≤ 1 ∧ ∀ y ∈ p.2, 0 ≤ y ∧ y < count) ∧ (∀ w ∈ as.take i, (getA sp w).isSome = true) ∧ Bx b kp c S' (n + 21 + i) ∧ Kp [kp, c] S S')
      ⟨_, [], rfl, (Sto.put_ne ntl).trans l9, chT, Sto.put_same, by simp, by simp, by simp, (b9.mono (by omega)).put ⟨t1, t2, t3⟩, k9.put (.inl ft)⟩ ?_ ?_
    · rintro i x ρ' S' hx ⟨z, sp, rfl, f0, fc, f1, f2, f3, f4, f5, f6⟩
      obtain ⟨w, hw, rfl⟩ := strs_map hx
      have hi : i < as.length := (List.getElem?_eq_some_iff.mp hw).1
      refine ⟨trivial, ?_⟩
      dsimp!
      refine run_cons ?_
      dsimp! [h9]
      refine ⟨.inl (by omega), ?_⟩
      refine take_ok f5 (by omega) (by omega) (by omega) fun v S10 c0 c1 c2 c3 => ?_
      refine lc_by mG (fun j acc S' => S' = S10 ∧ ∃ r : List Int, acc = r.map .int ∧ r.length ≤ j ∧ ∀ y ∈ r, 0 ≤ y ∧ y < count) ⟨rfl, [], rfl, Nat.le_refl _, by simp⟩ ?_ ?_
      · rintro j x acc S' hx ⟨rfl, r, rfl, r1, r2⟩
        have hj : j < 1 := (List.getElem?_eq_some_iff.mp hx).1
        have j0 : j = 0 := by omega
        subst j0
        cases hx
        refine ⟨trivial, ?_⟩
        dsimp! [wipeU]
        refine ite2 (fun hyes => ?_) (fun _ => ⟨r, rfl, by omega, r2⟩)
        refine ⟨by simp; rw [sizeLine_eq]; omega, r ++ [v], by simp, (by rw [List.length_append, List.length_singleton]; omega), fun y hy => ?_⟩
        rcases List.mem_append.mp hy with hy | hy
        · exact r2 y hy
        · rw [List.mem_singleton.mp hy]; exact ⟨c0, hyes⟩
      · rintro acc S' ⟨rfl, r, rfl, r1, r2⟩
        refine ⟨trivial, ?_⟩
        have r1 : r.length ≤ 1 := r1
        dsimp!
        refine set_sp (r := r) (c3.at f1 (by simp [t2, t3])) (by omega) ?_
        have f1' := c3.at f1 (by simp [t2, t3])
        refine run_nil ⟨_, _, rfl, (Sto.put_ne ntl).trans (c3.at f0 (by simp [q2, q3])), (fc.kp c3 hX).put f1' (by simp), Sto.put_same, ?_, putA_all f3 ⟨hA w (List.mem_of_getElem? hw), r1, r2⟩, ?_, (c2.put ⟨t1, t2, t3⟩).mono (by omega), (f6.trans c3).put (.inl ft)⟩
        · have := putA_len sp w r; omega
        · rw [take_len hw]; exact has_put f4
    · rintro ρ' S' ⟨z, sp, rfl, f0, fc, f1, f2, f3, f4, f5, f6⟩
      rw [List.length_map] at f2 f4 f5
      rw [List.take_length] at f4
      exact ⟨trivial, _, sp, rfl, f0, fc, f1, by omega, f3, f4, f5.mono (by omega), f6⟩
  rintro ρ' S3' ⟨z, sp, rfl, f0, fc, f1, f2, f3, f4, f5, f6⟩
  obtain ⟨lk, D, d1', d2', d3', d4'⟩ := frz_ch fc
  have gs := gst_dct f0 d1'
  rw [d2'] at gs
  have lenk : lk.length = kv9.length := by
    have := congrArg List.length d2'
    simpa using this.symm
  have tD : t ∉ l :: D := by
    intro m
    rcases List.mem_cons.mp m with m | m
    · exact ntl m.symm
    · obtain ⟨xs, e⟩ := d1'.mem t m
      rw [f1] at e; cases e
  have freeD : ∀ p ∈ l :: D, S p = none := fun p hp => by
    rcases List.mem_cons.mp hp with rfl | hp
    · exact fl
    · exact d3' p hp
  refine run_cons ?_
  dsimp!
  refine ⟨_, _, gs, _, _, frz_sp ((delS_ne tD).trans f1), ?_⟩
  exact k ⟨count, lk, sp⟩ _ ⟨by show 1 ≤ count; omega, by show count ≤ 64; omega, fun p hp => ⟨(d4' p hp).1, (d4' p hp).2.1, fun r hr => ⟨by have := ((d4' p hp).2.2 r hr).1; omega, ((d4' p hp).2.2 r hr).2⟩⟩, fun p hp => ⟨(f3 p hp).1, by have := (f3 p hp).2.1; omega, fun _ => by have := (f3 p hp).2.1; omega, (f3 p hp).2.2⟩, by show lk.length ≤ 5; omega, by show sp.length ≤ 5; omega⟩
    ⟨fun w hw => keys_has d2' (has9 w hw), f4⟩
    (((f5.dels fun p hp => hb.new (freeD p hp)).dels (by simp [t1, t2, t3])).mono (by omega)) ((f6.delS fun p hp => .inl (freeD p hp)).delS (by simp [ft]))
end K22
namespace K22
open PySem PySem.Spec PyProof.Rows L2 Mm
theorem isi_str : kitB "str" "str" = some true := by decide +kernel
theorem boolsOf_map (bs : List Bool) : boolsOf (bs.map U.bl) = some bs := by
  induction bs with
  | nil => rfl
  | cons b bs ih => simp only [List.map_cons, boolsOf, ih, Option.map_some]
theorem intsOf_map (bs : List Int) : intsOf (bs.map U.int) = some bs := by
  induction bs with
  | nil => rfl
  | cons b bs ih => simp only [List.map_cons, intsOf, ih, Option.map_some]
theorem in_strs {S : Sto} {y : U} {ts : List (List Nat)} {w : List Nat} {k : Bool → Prop} (hy : y = .lst (ts.map .str) ∨ y = .tup (ts.map .str) ∨ ∃ p, y = .ref p ∧ S p = some (.lst (ts.map .str))) (hk : k (decide (w ∈ ts))) : copW .isin (.str w) y S k := by
  rcases hy with rfl | rfl | ⟨p, rfl, hp⟩
  · exact ⟨_, rfl, rfl, strs_flat ts, by rw [strs_any]; exact hk⟩
  · exact ⟨_, rfl, rfl, strs_flat ts, by rw [strs_any]; exact hk⟩
  · rw [n_in]
    simp only [inW, hp]
    exact ⟨rfl, strs_flat ts, by rw [strs_any]; exact hk⟩
theorem lt_sing {a b : Nat} : (([a] : List Nat) < [b]) ↔ a < b := by
  constructor
  · intro h
    rcases h with _ | h | h
    · assumption
    all_goals cases h
  · intro h
    exact List.Lex.rel h
def spIsName : FS := ⟨1, fun us S R _ => ∃ w, us = [.str w] ∧ IsWord w ∧ R (.bl true) S⟩
theorem body_is_name (G : GV) (mG : GMono G) (g0 : G.globs[0]? = some (.tup (resv.map .str))) (g1 : G.globs[1]? = some (.int 12)) : ∀ us S R RX, us.length = pr_is_name.length → spIsName.sp us S R RX → wCms G (fun x _ S' => RX x S') ir_is_name (startU nm_is_name us) S { nx := fun _ S' => R .non S', rt := R } := by
  rintro us S R RX - ⟨w, rfl, hw, k⟩
  have e0 : startU nm_is_name [.str w] = [some (.str w), none] := rfl
  rw [e0]
  unfold ir_is_name
  have hle := hw.le
  have hne := hw.ne
  refine run_cons ?_
  dsimp!
  refine ⟨"str", true, rfl, isi_str, ?_⟩
  simp_all! [g0]
  refine in_strs (ts := resv) (.inr (.inl rfl)) ?_
  dsimp! [hw.free]
  refine run_nil ?_
  refine run_cons ?_
  dsimp! [g1]
  have h1' : (1 : Int) ≤ w.length := by omega
  have h2' : (w.length : Int) ≤ 12 := by omega
  refine ⟨by rw [sizeLine_eq]; omega, ?_⟩
  simp_all! [h1', h2']
  refine run_nil ?_
  refine run_cons ?_
  dsimp!
  refine lc_by mG (fun i acc S' => S' = S ∧ acc = (List.replicate i true).map U.bl) ⟨rfl, rfl⟩ ?_ ?_
  · rintro i x acc S' hx ⟨rfl, rfl⟩
    refine ⟨trivial, ?_⟩
    rw [List.getElem?_map] at hx
    cases q : w[i]? with
    | none => rw [q] at hx; cases hx
    | some c =>
      rw [q] at hx; cases hx
      have hi := (List.getElem?_eq_some_iff.mp q).1
      obtain ⟨l1, l2⟩ := hw.low c (List.mem_of_getElem? q)
      dsimp! [wipeU]
      have l1' : ¬ (([c] : List Nat) < [97]) := fun h => by rw [lt_sing] at h; omega
      simp_all! [l1']
      have l2' : ¬ (([122] : List Nat) < [c]) := fun h => by rw [lt_sing] at h; omega
      simp_all! [l2']
      refine ⟨by rw [sizeLine_eq]; simp; omega, ?_⟩
      rw [List.replicate_succ', List.map_append]; rfl
  · rintro acc S' ⟨rfl, rfl⟩
    refine ⟨trivial, ?_⟩
    dsimp!
    refine ⟨_, _, rfl, boolsOf_map _, ?_⟩
    have e : (List.replicate ((w.map fun c => U.str [c]).length) true).all id = true := by simp
    rw [e]; exact k
theorem is_name_ok {w : List Nat} {S : Sto} {R : Post} {RX : Xn → Sto → Prop} (h : IsWord w) (k : R (.bl true) S) : [U.str w].length = spIsName.n ∧ spIsName.sp [.str w] S R RX := ⟨rfl, w, rfl, h, k⟩
/-- ns: the members of l in order -/
def IsSrt (ns l : List Int) : Prop := ns.Pairwise (· < ·) ∧ ∀ k, k ∈ ns ↔ k ∈ l
theorem len_sub {a : List Int} : ∀ {l : List Int}, a.Nodup → (∀ x ∈ a, x ∈ l) → a.length ≤ l.length := by
  induction a with
  | nil => intro l _ _; simp
  | cons x a ih =>
    intro l nd h
    obtain ⟨n1, n2⟩ := List.nodup_cons.mp nd
    have hx := h x List.mem_cons_self
    have := ih (l := l.erase x) n2 fun y hy => (List.mem_erase_of_ne (fun e => n1 (by rw [← e]; exact hy))).mpr (h y (List.mem_cons_of_mem _ hy))
    rw [List.length_erase_of_mem hx] at this
    have := List.length_pos_of_mem hx
    simp only [List.length_cons]; omega
theorem IsSrt.len {ns l : List Int} (h : IsSrt ns l) : ns.length ≤ l.length := by
  have nd : ns.Nodup := h.1.imp fun h => by omega
  exact len_sub nd fun x hx => (h.2 x).mp hx
theorem IsSrt.uniq : ∀ {a b : List Int}, a.Pairwise (· < ·) → b.Pairwise (· < ·) → (∀ k, k ∈ a ↔ k ∈ b) → a = b
  | [], [], _, _, _ => rfl
  | [], y :: b, _, _, h => by have := (h y).mpr List.mem_cons_self; cases this
  | x :: a, [], _, _, h => by have := (h x).mp List.mem_cons_self; cases this
  | x :: a, y :: b, ha, hb, h => by
    obtain ⟨a1, a2⟩ := List.pairwise_cons.mp ha
    obtain ⟨b1, b2⟩ := List.pairwise_cons.mp hb
    have e : x = y := by
      have hx := (h x).mp List.mem_cons_self
      have hy := (h y).mpr List.mem_cons_self
      rcases List.mem_cons.mp hx with e | hx
      · exact e
      · rcases List.mem_cons.mp hy with e | hy
        · exact e.symm
        · have := b1 x hx; have := a1 y hy; omega
    subst e
    congr 1
    refine IsSrt.uniq a2 b2 fun k => ?_
    constructor
    · intro hk
      rcases List.mem_cons.mp ((h k).mp (List.mem_cons_of_mem _ hk)) with e | hk'
      · have := a1 k hk; omega
      · exact hk'
    · intro hk
      rcases List.mem_cons.mp ((h k).mpr (List.mem_cons_of_mem _ hk)) with e | hk'
      · have := b1 k hk; omega
      · exact hk'
abbrev pairU (p : Int × Int) : U := .tup [.int p.1, .int p.2]
/-- the second ones behind x -/
def secs (ps : List (Int × Int)) (x : Nat) : List Int := (ps.filter fun p => decide (p.1 = (x : Int))).map (·.2)
def PairsOk (count : Nat) (ps : List (Int × Int)) : Prop := (∀ p ∈ ps, 0 ≤ p.1 ∧ p.1 < count ∧ 0 ≤ p.2 ∧ p.2 < count) ∧ ∀ x : Nat, x < count → (secs ps x).length ≤ 61
def PairRows (count : Nat) (ps : List (Int × Int)) (rows : List (List Int)) : Prop := rows.length = count ∧ ∀ (x : Nat) r, rows[x]? = some r → IsSrt r (secs ps x)
def spPairs : FS := ⟨2, fun us S R _ => ∃ (count : Nat) (ps : List (Int × Int)), us = [.int count, .lst (ps.map pairU)] ∧ 1 ≤ count ∧ count ≤ 64 ∧ PairsOk count ps ∧ ∀ rows S', PairRows count ps rows → Kp [] S S' → R (rowsU rows) S'⟩
theorem secs_app {ps : List (Int × Int)} {p : Int × Int} {x : Nat} : secs (ps ++ [p]) x = if p.1 = x then secs ps x ++ [p.2] else secs ps x := by
  unfold secs
  rw [List.filter_append, List.map_append]
  by_cases e : p.1 = (x : Int) <;> simp [e]
theorem body_pairs (G : GV) (mG : GMono G) : ∀ us S R RX, us.length = pr_rows_of_pairs.length → spPairs.sp us S R RX → wCms G (fun x _ S' => RX x S') ir_rows_of_pairs (startU nm_rows_of_pairs us) S { nx := fun _ S' => R .non S', rt := R } := by
  rintro us S R RX - ⟨count, ps, rfl, hc1, hc2, ⟨hp1, hp2⟩, k⟩
  have e0 : startU nm_rows_of_pairs [.int count, .lst (ps.map pairU)] = [some (.int count), some (.lst (ps.map pairU)), none, none, none, none, none] := rfl
  rw [e0]
  unfold ir_rows_of_pairs
  refine run_cons ?_
  dsimp!
  refine ⟨by omega, ?_⟩
  rw [Int.toNat_natCast]
  refine new_rows mG hc2 fun rs S1 k1 r1 r2 nd => ?_
  refine cut mG (fun ρ' S' => ∃ x y : Option U, ρ' = [some (.int count), some (.lst (ps.map pairU)), some (.lst (rs.map .ref)), x, y, none, none] ∧ Kp [] S S' ∧ ∀ (x : Nat) p, rs[x]? = some p → S' p = some (.lst ((secs ps x).map .int))) ?_ ?_
  · dsimp!
    refine for_inv mG (fun i ρ' S' => ∃ x y : Option U, ρ' = [some (.int count), some (.lst (ps.map pairU)), some (.lst (rs.map .ref)), x, y, none, none] ∧ Kp [] S S' ∧ ∀ (x : Nat) p, rs[x]? = some p → S' p = some (.lst ((secs (ps.take i) x).map .int))) ⟨_, _, rfl, k1, fun x p hp => ?_⟩ ?_ ?_
    · rw [List.take_zero]; exact (r2 p (List.mem_of_getElem? hp)).2
    · rintro i x ρ' S' hx ⟨y, z, rfl, g1, g2⟩
      rw [List.getElem?_map, Option.map_eq_some_iff] at hx
      obtain ⟨p, hp, rfl⟩ := hx
      obtain ⟨b1, b2, b3, b4⟩ := hp1 p (List.mem_of_getElem? hp)
      refine ⟨trivial, ?_⟩
      dsimp! [setsU]
      refine run_cons ?_
      have n1 : ¬ p.1 < 0 := by omega
      have n2 : ¬ (count : Int) ≤ p.1 := by omega
      have n3 : ¬ p.2 < 0 := by omega
      have n4 : ¬ (count : Int) ≤ p.2 := by omega
      simp_all! [n1, n2, n3, n4]
      refine run_nil (run_cons ?_)
      dsimp!
      obtain ⟨q, hq1, hq2⟩ := at_in (xs := rs) (i := p.1) b1 (by omega)
      have hq3 : L2.atI (rs.map U.ref) p.1 = some (.ref q) := by rw [at_nat b1, List.getElem?_map, hq2]; rfl
      have hS := g2 _ _ hq2
      dsimp! [hq3, hS]
      have tk : ps.take (i + 1) = ps.take i ++ [p] := by rw [List.take_add_one, hp]; rfl
      have sub : (secs (ps.take i) p.1.toNat).length ≤ 61 := by
        refine Nat.le_trans ?_ (hp2 p.1.toNat (by omega))
        unfold secs
        rw [List.length_map, List.length_map]
        exact ((List.take_sublist i ps).filter _).length_le
      refine ⟨by simp; rw [sizeLine_eq]; omega, ?_⟩
      have fq : S q = none := (r2 q (List.mem_of_getElem? hq2)).1
      refine run_nil ⟨_, _, rfl, g1.put (.inl fq), fun x r hr => ?_⟩
      rw [tk, secs_app]
      by_cases e : x = p.1.toNat
      · subst e
        have er : r = q := by rw [hq2] at hr; cases hr; rfl
        rw [if_pos (by omega), er, Sto.put_same, List.map_append]; rfl
      · rw [if_neg (by omega)]
        have ne : r ≠ q := by
          rintro rfl
          obtain ⟨z1, z2⟩ := List.getElem?_eq_some_iff.mp hr
          obtain ⟨z3, z4⟩ := List.getElem?_eq_some_iff.mp hq2
          exact e ((List.getElem_inj nd).mp (z2.trans z4.symm))
        rw [Sto.put_ne ne]; exact g2 x r hr
    · rintro ρ' S' ⟨y, z, rfl, g1, g2⟩
      rw [List.length_map, List.take_length] at g2
      exact ⟨trivial, _, _, rfl, g1, g2⟩
  rintro ρ' S2 ⟨y, z, rfl, g1, g2⟩
  refine run_cons ?_
  dsimp!
  refine lc_by mG (fun j acc S' => S' = S2 ∧ ∃ rows : List (List Int), acc = rows.map intsU ∧ rows.length = j ∧ ∀ (x : Nat) r, rows[x]? = some r → IsSrt r (secs ps x)) ⟨rfl, [], rfl, rfl, by simp⟩ ?_ ?_
  · rintro j x acc S' hx ⟨rfl, rows, rfl, h1, h2⟩
    rw [List.getElem?_map, Option.map_eq_some_iff] at hx
    obtain ⟨p, hp, rfl⟩ := hx
    have hj : j < rs.length := (List.getElem?_eq_some_iff.mp hp).1
    refine ⟨trivial, ?_⟩
    dsimp! [wipeU]
    refine ⟨_, secs ps j, by simp only [lisOf, lstOf, g2 _ _ hp], intsOf_map _, by have := hp2 j (by omega); omega, fun ns w1 w2 => ?_⟩
    dsimp!
    refine ⟨by simp; rw [sizeLine_eq]; omega, rows ++ [ns], by simp, by simp [h1], fun x r hr => ?_⟩
    by_cases e : x < rows.length
    · rw [List.getElem?_append_left e] at hr; exact h2 x r hr
    · rw [List.getElem?_append_right (by omega)] at hr
      have e2 : x = j := by
        have := (List.getElem?_eq_some_iff.mp hr).1
        simp at this; omega
      subst e2
      rw [h1, Nat.sub_self] at hr
      cases hr
      exact ⟨w1, w2⟩
  · rintro acc S' ⟨rfl, rows, rfl, h1, h2⟩
    refine ⟨trivial, ?_⟩
    dsimp!
    rw [List.length_map] at h1
    exact k rows _ ⟨by omega, h2⟩ g1
def spWorlds : FS := ⟨2, fun us S R _ => ∃ (count : Nat) (ws : List Int), us = [.int count, intsU ws] ∧ ws.length < 64 ∧ (∀ y ∈ ws, 0 ≤ y ∧ y < count) ∧ ∀ ns, IsSrt ns ws → R (intsU ns) S⟩
theorem body_worlds (G : GV) (mG : GMono G) : ∀ us S R RX, us.length = pr_row_of_worlds.length → spWorlds.sp us S R RX → wCms G (fun x _ S' => RX x S') ir_row_of_worlds (startU nm_row_of_worlds us) S { nx := fun _ S' => R .non S', rt := R } := by
  rintro us S R RX - ⟨count, ws, rfl, hl, hb, k⟩
  have e0 : startU nm_row_of_worlds [.int count, intsU ws] = [some (.int count), some (intsU ws), none] := rfl
  rw [e0]
  unfold ir_row_of_worlds
  refine cut mG (fun ρ' S' => S' = S ∧ ∃ x : Option U, ρ' = [some (.int count), some (intsU ws), x]) ?_ ?_
  · dsimp!
    refine for_inv mG (fun i ρ' S' => S' = S ∧ ∃ x : Option U, ρ' = [some (.int count), some (intsU ws), x]) ⟨rfl, _, rfl⟩ ?_ ?_
    · rintro i x ρ' S' hx ⟨rfl, y, rfl⟩
      obtain ⟨z, hz, rfl⟩ := ints_map hx
      obtain ⟨b1, b2⟩ := hb z (List.mem_of_getElem? hz)
      refine ⟨trivial, ?_⟩
      dsimp!
      refine run_cons ?_
      have n1 : ¬ z < 0 := by omega
      have n2 : ¬ (count : Int) ≤ z := by omega
      simp_all! [n1, n2]
      refine run_nil ?_
      dsimp only
      exact run_nil ⟨rfl, _, rfl⟩
    · rintro ρ' S' ⟨rfl, y, rfl⟩
      exact ⟨trivial, rfl, _, rfl⟩
  rintro ρ' S' ⟨rfl, y, rfl⟩
  refine run_cons ?_
  dsimp!
  refine ⟨_, _, rfl, intsOf_map _, hl, fun ns w1 w2 => ?_⟩
  dsimp!
  exact k ns ⟨w1, w2⟩
end K22
namespace K22
open PySem PySem.Spec PyProof.Rows L2 Mm
/-! numbers by first occurrence -/
section
variable {κ κ' : Type} [DecidableEq κ] [DecidableEq κ']
def kvN (kvs : List (κ × Int)) (q : κ) : List (κ × Int) := if (getA kvs q).isSome = true then kvs else putA kvs q (kvs.length : Int)
def numbGo : List (κ × Int) → List κ → List Int
  | _, [] => []
  | kvs, q :: qs => (getA (kvN kvs q) q).getD 0 :: numbGo (kvN kvs q) qs
def numb (qs : List κ) : List Int := numbGo [] qs
theorem getA_kvN (kvs : List (κ × Int)) (q v : κ) : getA (kvN kvs q) v = if v = q ∧ getA kvs q = none then some (kvs.length : Int) else getA kvs v := by
  unfold kvN
  cases h : getA kvs q with
  | some x => simp
  | none =>
    simp only [Option.isSome_none, Bool.false_eq_true, if_false, and_true]
    exact getA_put _ _ _ _
theorem putA_new {kvs : List (κ × Int)} {q : κ} {v : Int} (h : getA kvs q = none) : putA kvs q v = kvs ++ [(q, v)] := by
  unfold putA
  rw [if_neg]
  intro e
  obtain ⟨p, hp, e⟩ := List.any_eq_true.mp e
  have : (getA kvs q).isSome = true := has_key.mpr (List.mem_map.mpr ⟨p, hp, by simpa using e⟩)
  rw [h] at this; cases this
theorem len_kvN (kvs : List (κ × Int)) (q : κ) : (kvN kvs q).length = kvs.length ∨ (getA kvs q = none ∧ (kvN kvs q).length = kvs.length + 1) := by
  unfold kvN
  cases h : getA kvs q with
  | some x => simp
  | none => simp [putA_new h]
structure GoodK (kvs : List (κ × Int)) : Prop where
  b : ∀ q v, getA kvs q = some v → 0 ≤ v ∧ v < kvs.length
  i : ∀ q q' v, getA kvs q = some v → getA kvs q' = some v → q = q'
theorem GoodK.nil : GoodK ([] : List (κ × Int)) := ⟨fun q v h => (by cases h), fun q q' v h => (by cases h)⟩
theorem GoodK.kvN {kvs : List (κ × Int)} (g : GoodK kvs) (q : κ) : GoodK (kvN kvs q) := by
  cases h : getA kvs q with
  | some x =>
    have : K22.kvN kvs q = kvs := by unfold K22.kvN; rw [h]; rfl
    rw [this]; exact g
  | none =>
    have hl : (K22.kvN kvs q).length = kvs.length + 1 := by
      unfold K22.kvN; rw [h, putA_new h]; simp
    constructor
    · intro a v ha
      rw [getA_kvN] at ha
      rw [hl]
      split at ha
      · cases ha; omega
      · have := g.b a v ha; omega
    · intro a a' v ha ha'
      rw [getA_kvN] at ha ha'
      split at ha
      · next e =>
        cases ha
        split at ha'
        · next e' => rw [e.1, e'.1]
        · have := g.b _ _ ha'; omega
      · split at ha'
        · cases ha'
          have := g.b _ _ ha; omega
        · exact g.i _ _ _ ha ha'
theorem getA_kvN_mono {kvs : List (κ × Int)} {q a : κ} {v : Int} (h : getA kvs a = some v) : getA (kvN kvs q) a = some v := by
  rw [getA_kvN, if_neg]; exact h
  rintro ⟨rfl, e⟩; rw [h] at e; cases e
theorem getA_kvN_self (kvs : List (κ × Int)) (q : κ) : (getA (kvN kvs q) q).isSome = true := by
  rw [getA_kvN]
  split
  · rfl
  · next n =>
    cases h : getA kvs q with
    | none => exact absurd ⟨rfl, h⟩ n
    | some v => rfl
theorem numbGo_fin : ∀ (qs : List κ) (kvs : List (κ × Int)), GoodK kvs → ∃ K, GoodK K ∧ (∀ q v, getA kvs q = some v → getA K q = some v) ∧ (∀ q ∈ qs, (getA K q).isSome = true) ∧ numbGo kvs qs = qs.map (fun q => (getA K q).getD 0) ∧ K.length ≤ kvs.length + qs.length
  | [], kvs, g => ⟨kvs, g, fun _ _ h => h, by simp, rfl, by simp⟩
  | q :: qs, kvs, g => by
    obtain ⟨K, h1, h2, h3, h4, h5⟩ := numbGo_fin qs (kvN kvs q) (g.kvN q)
    obtain ⟨v, hv⟩ := Option.isSome_iff_exists.mp (getA_kvN_self kvs q)
    have hK := h2 _ _ hv
    refine ⟨K, h1, fun a u ha => h2 _ _ (getA_kvN_mono ha), fun a ha => ?_, ?_, ?_⟩
    · rcases List.mem_cons.mp ha with rfl | ha
      · rw [hK]; rfl
      · exact h3 a ha
    · unfold numbGo
      rw [h4, List.map_cons, hv, hK]
    · have := len_kvN kvs q
      simp only [List.length_cons]
      rcases this with e | ⟨_, e⟩ <;> omega
theorem numb_fin (qs : List κ) : ∃ g : κ → Int, numb qs = qs.map g ∧ (∀ a ∈ qs, 0 ≤ g a ∧ g a < qs.length) ∧ ∀ a ∈ qs, ∀ b ∈ qs, g a = g b → a = b := by
  obtain ⟨K, h1, h2, h3, h4, h5⟩ := numbGo_fin qs [] GoodK.nil
  refine ⟨_, h4, fun a ha => ?_, fun a ha b hb e => ?_⟩
  · obtain ⟨v, hv⟩ := Option.isSome_iff_exists.mp (h3 a ha)
    have := h1.b _ _ hv
    simp only [hv, Option.getD_some]
    simp at h5
    omega
  · obtain ⟨v, hv⟩ := Option.isSome_iff_exists.mp (h3 a ha)
    obtain ⟨u, hu⟩ := Option.isSome_iff_exists.mp (h3 b hb)
    simp only [hv, hu, Option.getD_some] at e
    subst e
    exact h1.i _ _ _ hv hu
theorem numb_len (qs : List κ) : (numb qs).length = qs.length := by
  obtain ⟨g, h, _⟩ := numb_fin qs
  rw [h, List.length_map]
theorem numbGo_congr : ∀ (qs : List κ) (qs' : List κ') (kvs : List (κ × Int)) (kvs' : List (κ' × Int)), qs.length = qs'.length → kvs.length = kvs'.length → (∀ (j : Nat) a a', qs[j]? = some a → qs'[j]? = some a' → getA kvs a = getA kvs' a') → (∀ (i j : Nat) a a' b b', qs[i]? = some a → qs'[i]? = some a' → qs[j]? = some b → qs'[j]? = some b' → (a = b ↔ a' = b')) → numbGo kvs qs = numbGo kvs' qs'
  | [], [], _, _, _, _, _, _ => rfl
  | [], _ :: _, _, _, h, _, _, _ => by cases h
  | _ :: _, [], _, _, h, _, _, _ => by cases h
  | q :: qs, q' :: qs', kvs, kvs', hl, hk, h1, h2 => by
    have h0 := h1 0 q q' rfl rfl
    have hn : getA kvs q = none ↔ getA kvs' q' = none := by rw [h0]
    have hk2 : (kvN kvs q).length = (kvN kvs' q').length := by
      unfold kvN
      rw [h0]
      cases e : getA kvs' q' with
      | some v => simpa using hk
      | none =>
        have e2 := h0.trans e
        simp [putA_new e, putA_new e2, hk]
    have get : ∀ a a', (a = q ↔ a' = q') → getA kvs a = getA kvs' a' → getA (kvN kvs q) a = getA (kvN kvs' q') a' := by
      intro a a' e1 e2
      rw [getA_kvN, getA_kvN, hk, e2]
      by_cases z : a = q ∧ getA kvs q = none
      · rw [if_pos z, if_pos ⟨e1.mp z.1, hn.mp z.2⟩]
      · rw [if_neg z, if_neg fun z' => z ⟨e1.mpr z'.1, hn.mpr z'.2⟩]
    unfold numbGo
    rw [get q q' (by simp) h0]
    congr 1
    refine numbGo_congr qs qs' _ _ (by simpa using hl) hk2 (fun j a a' ha ha' => ?_) fun i j a a' b b' ha ha' hb hb' => h2 (i + 1) (j + 1) a a' b b' ha ha' hb hb'
    refine get a a' ?_ (h1 (j + 1) a a' ha ha')
    have := h2 0 (j + 1) q q' a a' rfl rfl ha ha'
    exact ⟨fun e => (this.mp e.symm).symm, fun e => (this.mpr e.symm).symm⟩
theorem numb_congr {qs : List κ} {qs' : List κ'} (h : qs.length = qs'.length) (h2 : ∀ (i j : Nat) a a' b b', qs[i]? = some a → qs'[i]? = some a' → qs[j]? = some b → qs'[j]? = some b' → (a = b ↔ a' = b')) : numb qs = numb qs' := numbGo_congr qs qs' [] [] h rfl (fun _ _ _ _ _ => rfl) h2
theorem rng_at {α : Type} {n j : Nat} {f : Nat → α} {a : α} (h : ((List.range n).map f)[j]? = some a) : j < n ∧ a = f j := by
  rw [List.getElem?_map, Option.map_eq_some_iff] at h
  obtain ⟨i, h1, h2⟩ := h
  obtain ⟨h3, h4⟩ := List.getElem?_eq_some_iff.mp h1
  rw [List.getElem_range] at h4
  subst h4
  exact ⟨by simpa using h3, h2.symm⟩
theorem numb_map {n : Nat} {f : Nat → κ} {g : Nat → κ'} (h : ∀ x, x < n → ∀ y, y < n → (f x = f y ↔ g x = g y)) : numb ((List.range n).map f) = numb ((List.range n).map g) := by
  refine numb_congr (by simp) fun i j a a' b b' ha ha' hb hb' => ?_
  obtain ⟨h1, rfl⟩ := rng_at ha
  obtain ⟨_, rfl⟩ := rng_at ha'
  obtain ⟨h2, rfl⟩ := rng_at hb
  obtain ⟨_, rfl⟩ := rng_at hb'
  exact h i h1 j h2
/-- the number at x -/
def numF (n : Nat) (f : Nat → κ) (x : Nat) : Int := (numb ((List.range n).map f)).getD x 0
theorem numF_fin (n : Nat) (f : Nat → κ) : ∃ g : κ → Int, (∀ x, x < n → numF n f x = g (f x)) ∧ (∀ x, n ≤ x → numF n f x = 0) ∧ (∀ x, x < n → 0 ≤ g (f x) ∧ g (f x) < n) ∧ ∀ x, x < n → ∀ y, y < n → g (f x) = g (f y) → f x = f y := by
  obtain ⟨g, h1, h2, h3⟩ := numb_fin ((List.range n).map f)
  have mem : ∀ x, x < n → f x ∈ (List.range n).map f := fun x hx => List.mem_map.mpr ⟨x, List.mem_range.mpr hx, rfl⟩
  refine ⟨g, fun x hx => ?_, fun x hx => ?_, fun x hx => ?_, fun x hx y hy e => h3 _ (mem x hx) _ (mem y hy) e⟩
  · unfold numF
    rw [h1, List.map_map, List.getD_eq_getElem?_getD, List.getElem?_map, List.getElem?_range hx]; rfl
  · unfold numF
    rw [h1, List.getD_eq_getElem?_getD, List.getElem?_eq_none (by simpa using hx)]; rfl
  · have := h2 _ (mem x hx)
    simpa using this
theorem numF_iff {n : Nat} {f : Nat → κ} {x y : Nat} (hx : x < n) (hy : y < n) : numF n f x = numF n f y ↔ f x = f y := by
  obtain ⟨g, h1, h2, h3, h4⟩ := numF_fin n f
  rw [h1 x hx, h1 y hy]
  exact ⟨h4 x hx y hy, fun e => by rw [e]⟩
theorem numF_out {n : Nat} {f : Nat → κ} {x : Nat} (hx : n ≤ x) : numF n f x = 0 := by
  obtain ⟨g, h1, h2, h3, h4⟩ := numF_fin n f
  exact h2 x hx
theorem numF_b {n : Nat} {f : Nat → κ} {x : Nat} (hx : x < n) : 0 ≤ numF n f x ∧ numF n f x < n := by
  obtain ⟨g, h1, h2, h3, h4⟩ := numF_fin n f
  rw [h1 x hx]; exact h3 x hx
theorem numF_list (n : Nat) (f : Nat → κ) : numb ((List.range n).map f) = (List.range n).map (numF n f) := by
  refine List.ext_getElem? fun i => ?_
  by_cases h : i < n
  · rw [List.getElem?_map (l := List.range n), List.getElem?_range h]
    show _ = some ((numb ((List.range n).map f)).getD i 0)
    rw [List.getD_eq_getElem?_getD]
    have : i < (numb ((List.range n).map f)).length := by rw [numb_len]; simpa using h
    rw [List.getElem?_eq_getElem this]; rfl
  · rw [List.getElem?_eq_none (by rw [numb_len]; simpa using h), List.getElem?_eq_none (by simpa using h)]
theorem numF_congr {n : Nat} {f : Nat → κ} {g : Nat → κ'} (h : ∀ x, x < n → ∀ y, y < n → (f x = f y ↔ g x = g y)) : numF n f = numF n g := by
  funext x
  unfold numF
  rw [numb_map h]
end
/-! sets in order -/
def setOf (n : Nat) (l : List Int) : List Int := ((List.range n).map fun (i : Nat) => (i : Int)).filter fun v => decide (v ∈ l)
theorem mem_setOf {n : Nat} {l : List Int} {v : Int} : v ∈ setOf n l ↔ (0 ≤ v ∧ v < n) ∧ v ∈ l := by
  unfold setOf
  rw [List.mem_filter, List.mem_map, decide_eq_true_eq]
  constructor
  · rintro ⟨⟨i, hi, rfl⟩, h⟩
    rw [List.mem_range] at hi
    exact ⟨by omega, h⟩
  · rintro ⟨h1, h⟩
    exact ⟨⟨v.toNat, List.mem_range.mpr (by omega), by omega⟩, h⟩
theorem setOf_congr {n : Nat} {l l' : List Int} (h : ∀ v, v ∈ l ↔ v ∈ l') : setOf n l = setOf n l' := by
  unfold setOf
  congr 1
  funext v
  simp only [h v]
theorem setOf_srt {n : Nat} {l : List Int} (h : ∀ v ∈ l, 0 ≤ v ∧ v < n) : IsSrt (setOf n l) l := by
  refine ⟨?_, fun k => ?_⟩
  · refine List.Pairwise.filter _ ?_
    rw [List.pairwise_map]
    refine List.Pairwise.imp ?_ List.pairwise_lt_range
    intro a b h; omega
  · rw [mem_setOf]
    exact ⟨fun z => z.2, fun z => ⟨h k z, z⟩⟩
theorem srt_eq {n : Nat} {ns l : List Int} (h : IsSrt ns l) (b : ∀ v ∈ l, 0 ≤ v ∧ v < n) : ns = setOf n l := by
  have h2 := setOf_srt b
  exact IsSrt.uniq h.1 h2.1 fun k => (h.2 k).trans (h2.2 k).symm
theorem setOf_len {n : Nat} {l : List Int} (h : ∀ v ∈ l, 0 ≤ v ∧ v < n) : (setOf n l).length ≤ l.length := (setOf_srt h).len
theorem setOf_nil (n : Nat) : setOf n [] = [] := by unfold setOf; simp
/-! stages -/
structure Wd where
  n : Nat
  sees : List Nat → Nat → List Int
  mrk : List Nat → List Int
def Wd.Ok (W : Wd) : Prop := ∀ w x, ∀ y ∈ W.sees w x, 0 ≤ y ∧ y < W.n
def look (W : Wd) (e : Nat → Int) (x : Nat) (w : List Nat) : List Int := setOf W.n ((W.sees w x).map fun y => e y.toNat)
def st0 (W : Wd) (as : List (List Nat)) : Nat → Int := numF W.n fun x => as.map fun a => decide ((x : Int) ∈ W.mrk a)
def nxt (W : Wd) (ws : List (List Nat)) (e : Nat → Int) : Nat → Int := numF W.n fun x => (e x, ws.map (look W e x))
def stg (W : Wd) (ws as : List (List Nat)) : Nat → Nat → Int
  | 0 => st0 W as
  | k + 1 => nxt W ws (stg W ws as k)
def dstg (W : Wd) (ws as : List (List Nat)) : Nat → Nat → Int
  | 0 => st0 W as
  | k + 1 => numF W.n fun x => (st0 W as x, ws.map (look W (dstg W ws as k) x))
section
variable {W W' : Wd} {ws ws' as as' : List (List Nat)}
theorem stg_b {k x : Nat} (h : x < W.n) : 0 ≤ stg W ws as k x ∧ stg W ws as k x < W.n := by
  cases k <;> exact numF_b h
theorem nxt_iff {e : Nat → Int} {x y : Nat} (hx : x < W.n) (hy : y < W.n) : nxt W ws e x = nxt W ws e y ↔ e x = e y ∧ ws.map (look W e x) = ws.map (look W e y) := by
  unfold nxt
  rw [numF_iff hx hy, Prod.mk.injEq]
theorem stg_ref {k x y : Nat} (hx : x < W.n) (hy : y < W.n) (h : stg W ws as (k + 1) x = stg W ws as (k + 1) y) : stg W ws as k x = stg W ws as k y := by
  exact ((nxt_iff hx hy).mp h).1
theorem stg_ref0 {k x y : Nat} (hx : x < W.n) (hy : y < W.n) (h : stg W ws as k x = stg W ws as k y) : st0 W as x = st0 W as y := by
  induction k with
  | zero => exact h
  | succ k ih => exact ih (stg_ref hx hy h)
theorem look_ref (ok : W.Ok) {e e' : Nat → Int} (b : ∀ x, x < W.n → 0 ≤ e' x ∧ e' x < W.n) (h : ∀ x, x < W.n → ∀ y, y < W.n → e' x = e' y → e x = e y) {x y : Nat} {w : List Nat} (hl : look W e' x w = look W e' y w) : look W e x w = look W e y w := by
  have half : ∀ x y, look W e' x w = look W e' y w → ∀ v, v ∈ (W.sees w x).map (fun y => e y.toNat) → v ∈ (W.sees w y).map (fun y => e y.toNat) := by
    intro x y hl v hv
    obtain ⟨z, hz, rfl⟩ := List.mem_map.mp hv
    have zb := ok w x z hz
    have hz2 : z.toNat < W.n := by omega
    have : e' z.toNat ∈ look W e' x w := mem_setOf.mpr ⟨b _ hz2, List.mem_map.mpr ⟨z, hz, rfl⟩⟩
    rw [hl] at this
    obtain ⟨u, hu, e1⟩ := List.mem_map.mp (mem_setOf.mp this).2
    have ub := ok w y u hu
    exact List.mem_map.mpr ⟨u, hu, h _ (by omega) _ hz2 e1⟩
  exact setOf_congr fun v => ⟨half x y hl v, half y x hl.symm v⟩
theorem looks_iff {e : Nat → Int} {x y : Nat} : ws.map (look W e x) = ws.map (look W e y) ↔ ∀ w ∈ ws, look W e x w = look W e y w := List.map_inj_left
theorem stg_iff (ok : W.Ok) : ∀ {k x y : Nat}, x < W.n → y < W.n → (stg W ws as (k + 1) x = stg W ws as (k + 1) y ↔ st0 W as x = st0 W as y ∧ ws.map (look W (stg W ws as k) x) = ws.map (look W (stg W ws as k) y))
  | k, x, y, hx, hy => by
    constructor
    · intro h
      exact ⟨stg_ref0 hx hy h, ((nxt_iff hx hy).mp h).2⟩
    · rintro ⟨h1, h2⟩
      refine (nxt_iff hx hy).mpr ⟨?_, h2⟩
      cases k with
      | zero => exact h1
      | succ k =>
        refine (stg_iff ok hx hy).mpr ⟨h1, looks_iff.mpr fun w hw => ?_⟩
        exact look_ref ok (fun x hx => stg_b hx) (fun x hx y hy => stg_ref hx hy) (looks_iff.mp h2 w hw)
theorem stg_due (ok : W.Ok) : ∀ k, dstg W ws as k = stg W ws as k
  | 0 => rfl
  | k + 1 => by
    unfold dstg
    rw [stg_due ok k]
    show _ = nxt W ws (stg W ws as k)
    refine numF_congr fun x hx y hy => ?_
    have h1 := stg_iff (ws := ws) (as := as) (k := k) ok hx hy
    have h2 := nxt_iff (W := W) (ws := ws) (e := stg W ws as k) hx hy
    have h3 : stg W ws as (k + 1) = nxt W ws (stg W ws as k) := rfl
    rw [Prod.mk.injEq, Prod.mk.injEq, ← h1, h3, h2]
/-- the order does not matter -/
theorem st0_ord (ha : ∀ w, w ∈ as ↔ w ∈ as') : st0 W as = st0 W as' := by
  refine numF_congr fun x hx y hy => ?_
  rw [List.map_inj_left, List.map_inj_left]
  exact ⟨fun h a m => h a ((ha a).mpr m), fun h a m => h a ((ha a).mp m)⟩
theorem stg_ord (hw : ∀ w, w ∈ ws ↔ w ∈ ws') (ha : ∀ w, w ∈ as ↔ w ∈ as') : ∀ k, stg W ws as k = stg W ws' as' k
  | 0 => st0_ord ha
  | k + 1 => by
    unfold stg nxt
    rw [stg_ord hw ha k]
    refine numF_congr fun x hx y hy => ?_
    rw [Prod.mk.injEq, Prod.mk.injEq, looks_iff, looks_iff]
    exact ⟨fun ⟨h1, h2⟩ => ⟨h1, fun w m => h2 w ((hw w).mpr m)⟩, fun ⟨h1, h2⟩ => ⟨h1, fun w m => h2 w ((hw w).mp m)⟩⟩
/-- the same worlds in other words -/
structure Same (W W' : Wd) : Prop where
  n : W'.n = W.n
  s : ∀ w x, x < W.n → ∀ v, v ∈ W'.sees w x ↔ v ∈ W.sees w x
  m : ∀ a x, x < W.n → ((x : Int) ∈ W'.mrk a ↔ (x : Int) ∈ W.mrk a)
theorem stg_same (h : Same W W') : ∀ k, stg W' ws as k = stg W ws as k
  | 0 => by
    unfold stg st0
    rw [h.n]
    refine numF_congr fun x hx y hy => ?_
    have e : ∀ x, x < W.n → (as.map fun a => decide ((x : Int) ∈ W'.mrk a)) = as.map fun a => decide ((x : Int) ∈ W.mrk a) := fun x hx => List.map_congr_left fun a _ => by simp only [h.m a x hx]
    rw [e x hx, e y hy]
  | k + 1 => by
    unfold stg nxt
    rw [stg_same h k, h.n]
    have e : ∀ x, x < W.n → ws.map (look W' (stg W ws as k) x) = ws.map (look W (stg W ws as k) x) := fun x hx => List.map_congr_left fun w _ => by
      unfold look
      rw [h.n]
      refine setOf_congr fun v => ?_
      simp only [List.mem_map, h.s w x hx]
    refine numF_congr fun x hx y hy => ?_
    rw [e x hx, e y hy]
/-! an end -/
def fp (n : Nat) (e : Nat → Int) : List Nat := (List.range n).filter fun x => decide (∀ z, z < x → e z ≠ e x)
theorem filt_le {α : Type} {p q : α → Bool} : ∀ {l : List α}, (∀ x ∈ l, p x = true → q x = true) → (l.filter p).length ≤ (l.filter q).length
  | [], _ => Nat.le_refl _
  | a :: l, h => by
    have ih := filt_le (p := p) (q := q) (l := l) fun x hx => h x (List.mem_cons_of_mem _ hx)
    have ha := h a List.mem_cons_self
    cases hp : p a with
    | true => simp [List.filter_cons, hp, ha hp, ih]
    | false =>
      cases hq : q a
      · simp [List.filter_cons, hp, hq, ih]
      · simp [List.filter_cons, hp, hq]; omega
theorem filt_lt {α : Type} {p q : α → Bool} : ∀ {l : List α}, (∀ x ∈ l, p x = true → q x = true) → (∃ x ∈ l, p x = false ∧ q x = true) → (l.filter p).length < (l.filter q).length
  | [], _, h => by obtain ⟨x, hx, _⟩ := h; cases hx
  | a :: l, h, ⟨x, hx, h1, h2⟩ => by
    have hl : ∀ x ∈ l, p x = true → q x = true := fun x hx => h x (List.mem_cons_of_mem _ hx)
    have le := filt_le hl
    rcases List.mem_cons.mp hx with rfl | hx
    · simp [List.filter_cons, h1, h2]; omega
    · have ih := filt_lt hl ⟨x, hx, h1, h2⟩
      have ha := h a List.mem_cons_self
      cases hp : p a with
      | true => simp [List.filter_cons, hp, ha hp]; omega
      | false =>
        cases hq : q a
        · simp [List.filter_cons, hp, hq]; omega
        · simp [List.filter_cons, hp, hq]; omega
/-- the first place of x's class -/
theorem first_of (e : Nat → Int) : ∀ x : Nat, ∃ f, f ≤ x ∧ e f = e x ∧ ∀ z, z < f → e z ≠ e f := by
  intro x
  induction x using Nat.strongRecOn with
  | _ x ih =>
    by_cases h : ∃ z, z < x ∧ e z = e x
    · obtain ⟨z, hz, ez⟩ := h
      obtain ⟨f, h1, h2, h3⟩ := ih z hz
      exact ⟨f, by omega, h2.trans ez, h3⟩
    · exact ⟨x, Nat.le_refl _, rfl, fun z hz ez => h ⟨z, hz, ez⟩⟩
theorem fp_lt {n : Nat} {e e' : Nat → Int} (h : ∀ x, x < n → ∀ y, y < n → e' x = e' y → e x = e y) {x y : Nat} (hx : x < n) (hy : y < n) (h1 : e x = e y) (h2 : e' x ≠ e' y) : (fp n e).length < (fp n e').length := by
  obtain ⟨f, f1, f2, f3⟩ := first_of e x
  have main : ∀ x, x < n → e f = e x → e' x ≠ e' f → (fp n e).length < (fp n e').length := by
    intro x hx ex nx
    obtain ⟨g, g1, g2, g3⟩ := first_of e' x
    have eg : e g = e x := h g (by omega) x hx g2
    have nfg : f ≠ g := fun z => nx (by rw [z]; exact g2.symm)
    have fg : f < g := by
      rcases Nat.lt_or_ge f g with z | z
      · exact z
      · exact absurd (eg.trans ex.symm) (f3 g (by omega))
    refine filt_lt (fun z hz hp => ?_) ⟨g, List.mem_range.mpr (by omega), ?_, ?_⟩
    · rw [List.mem_range] at hz
      simp only [decide_eq_true_eq] at hp ⊢
      exact fun u hu e1 => hp u hu (h u (by omega) z hz e1)
    · simp only [decide_eq_false_iff_not]
      exact fun z => z f fg (ex.trans eg.symm)
    · simp only [decide_eq_true_eq]; exact g3
  by_cases z : e' x = e' f
  · exact main y hy (f2.trans h1) fun z' => h2 (z.trans z'.symm)
  · exact main x hx f2 z
theorem stg_fix (k : Nat) : stg W ws as k = numF W.n (stg W ws as k) := by
  have key : ∀ {κ : Type} [DecidableEq κ] (f : Nat → κ), numF W.n f = numF W.n (numF W.n f) := fun f => numF_congr fun x hx y hy => (numF_iff hx hy).symm
  cases k with
  | zero => exact key _
  | succ k => exact key _
theorem stg_grow {k : Nat} (h : stg W ws as (k + 1) ≠ stg W ws as k) : (fp W.n (stg W ws as k)).length < (fp W.n (stg W ws as (k + 1))).length := by
  apply Classical.byContradiction
  intro n
  refine h ?_
  rw [stg_fix (ws := ws) (as := as) (W := W) (k + 1), stg_fix (ws := ws) (as := as) (W := W) k]
  refine numF_congr fun x hx y hy => ⟨stg_ref hx hy, fun e1 => ?_⟩
  apply Classical.byContradiction
  intro e2
  exact n (fp_lt (fun x hx y hy => stg_ref hx hy) hx hy e1 e2)
theorem fp_le (n : Nat) (e : Nat → Int) : (fp n e).length ≤ n := by
  have := List.length_filter_le (fun x => decide (∀ z, z < x → e z ≠ e x)) (List.range n)
  rw [List.length_range] at this
  exact this
theorem fp_pos {n : Nat} (e : Nat → Int) (h : 1 ≤ n) : 1 ≤ (fp n e).length := by
  have : 0 ∈ fp n e := by
    unfold fp
    rw [List.mem_filter, List.mem_range]
    exact ⟨by omega, by simp⟩
  exact List.length_pos_of_mem this
/-- as many stages as worlds at most -/
theorem stg_low {k : Nat} (hn : 1 ≤ W.n) (h : ∀ j, j < k → stg W ws as (j + 1) ≠ stg W ws as j) : k < W.n := by
  have : ∀ j, j ≤ k → j + 1 ≤ (fp W.n (stg W ws as j)).length := by
    intro j
    induction j with
    | zero => intro _; exact fp_pos _ hn
    | succ j ih =>
      intro hj
      have := ih (by omega)
      have := stg_grow (h j (by omega))
      omega
  have h1 := this k (Nat.le_refl _)
  have h2 := fp_le W.n (stg W ws as k)
  omega
/-- k is the last stage -/
def Last (W : Wd) (ws as : List (List Nat)) (k : Nat) : Prop := (∀ j, j < k → stg W ws as (j + 1) ≠ stg W ws as j) ∧ stg W ws as (k + 1) = stg W ws as k
theorem Last.uniq {k k' : Nat} (h : Last W ws as k) (h' : Last W ws as k') : k = k' := by
  rcases Nat.lt_trichotomy k k' with z | z | z
  · exact absurd h.2 (h'.1 k z)
  · exact z
  · exact absurd h'.2 (h.1 k' z)
/-- a stage as a list -/
def rowL (n : Nat) (e : Nat → Int) : List Int := (List.range n).map e
theorem rowL_inj {n : Nat} {e e' : Nat → Int} (h : rowL n e = rowL n e') (o : ∀ x, n ≤ x → e x = e' x) : e = e' := by
  funext x
  by_cases hx : x < n
  · have := congrArg (fun l => l[x]?) h
    simp only [rowL, List.getElem?_map, List.getElem?_range hx, Option.map_some, Option.some.injEq] at this
    exact this
  · exact o x (by omega)
theorem stg_out {k x : Nat} (h : W.n ≤ x) : stg W ws as k x = 0 := by
  cases k <;> exact numF_out h
theorem stg_row {k j : Nat} : rowL W.n (stg W ws as k) = rowL W.n (stg W ws as j) ↔ stg W ws as k = stg W ws as j :=
  ⟨fun h => rowL_inj h fun x hx => (stg_out hx).trans (stg_out hx).symm, fun h => by rw [h]⟩
/-- the stages to the k-th -/
def rowsL (W : Wd) (ws as : List (List Nat)) (k : Nat) : List (List Int) := (List.range (k + 1)).map fun j => rowL W.n (stg W ws as j)
theorem last_nil : Last W [] as 0 := ⟨fun j hj => by omega, by
  show nxt W [] (st0 W as) = st0 W as
  unfold nxt
  refine (numF_congr (g := st0 W as) fun x hx y hy => ?_).trans ?_
  · simp
  · exact (stg_fix (ws := []) (as := as) (W := W) 0).symm⟩
end
end K22
namespace K22
open PySem PySem.Spec PyProof.Rows L2 Mm
structure Attrs (G : GV) : Prop where
  a0 : G.attr 0 "world_count" = true
  a1 : G.attr 0 "_arrows" = true
  a2 : G.attr 0 "_marks" = true
  a3 : G.attr 0 "names" = true
  a4 : G.attr 0 "atoms" = true
def HasM (G : GV) (m : Nat) (sp : FS) : Prop := ∃ cv, G.cls[0]? = some cv ∧ cv.meths[m]? = some sp
section
variable {G : GV} {RX : RXn} {o : E} {es : Es} {ρ : Mm.Env} {S : Sto} {R : Post}
theorem e_omt {m : Nat} {sp : FS} (h : HasM G m sp) : wE G RX (.omt 0 m o es) ρ S R = wE G RX o ρ S fun x S1 => ∃ a fs, x = .ref a ∧ S1 a = some (.ins 0 fs) ∧ (∀ y ∈ fs, G.attr 0 y.1 = true) ∧ wEs G RX es ρ S1 fun us S2 => us.length + 1 = sp.n ∧ sp.sp (x :: us) S2 R fun x S3 => RX x ρ S3 := by
  obtain ⟨cv, hc, hm⟩ := h
  apply propext
  constructor
  · rintro ⟨cv', sp', h1, h2, h3⟩
    rw [hc] at h1; cases h1; rw [hm] at h2; cases h2
    exact h3
  · intro h; exact ⟨cv, sp, hc, hm, h⟩
end
/-- a model -/
structure Mo where
  count : Nat
  A : List (List Nat × List (List Int))
  B : List (List Nat × List Int)
  nms : List (List Nat)
  ats : List (List Nat)
def moF (M : Mo) (d1 d2 : Addr) : List (Str × U) := [("world_count", .int M.count), ("_arrows", .ref d1), ("_marks", .ref d2), ("names", .tup (M.nms.map .str)), ("atoms", .tup (M.ats.map .str))]
def IsMo (S : Sto) (m : Addr) (M : Mo) : Prop := ∃ d1 d2, S m = some (.ins 0 (moF M d1 d2)) ∧ S d1 = some (.dct (M.A.map lkE)) ∧ S d2 = some (.dct (M.B.map spE))
theorem IsMo.kp {S S' : Sto} {X : List Addr} {m : Addr} {M : Mo} (h : IsMo S m M) (k : Kp X S S') (hX : ∀ p ∈ X, ∃ xs, S p = some (.lst xs)) : IsMo S' m M := by
  obtain ⟨d1, d2, h1, h2, h3⟩ := h
  have ne : ∀ p o, S p = some o → (∀ xs, o ≠ .lst xs) → p ∉ X := fun p o e n z => by
    obtain ⟨xs, e2⟩ := hX p z
    rw [e] at e2
    exact n xs (Option.some.inj e2)
  exact ⟨d1, d2, k.at h1 (ne _ _ h1 (by simp)), k.at h2 (ne _ _ h2 (by simp)), k.at h3 (ne _ _ h3 (by simp))⟩
theorem IsMo.kp0 {S S' : Sto} {m : Addr} {M : Mo} (h : IsMo S m M) (k : Kp [] S S') : IsMo S' m M := h.kp k (by simp)
theorem IsMo.attrs {G : GV} (hA : Attrs G) {M : Mo} {d1 d2 : Addr} : ∀ y ∈ moF M d1 d2, G.attr 0 y.1 = true := by
  intro y hy
  simp only [moF, List.mem_cons, List.not_mem_nil, or_false] at hy
  rcases hy with rfl | rfl | rfl | rfl | rfl
  · exact hA.a0
  · exact hA.a1
  · exact hA.a2
  · exact hA.a3
  · exact hA.a4
structure WfMo (M : Mo) : Prop where
  c1 : 1 ≤ M.count
  c2 : M.count ≤ 64
  A : ∀ p ∈ M.A, IsName p.1 ∧ RowsOk M.count 61 p.2
  B : ∀ p ∈ M.B, IsWord p.1 ∧ p.2.length < 64 ∧ ∀ y ∈ p.2, 0 ≤ y ∧ y < M.count
  al : M.A.length ≤ 5
  bl : M.B.length ≤ 5
  nm : ∀ w ∈ M.nms, ∃ rows, getA M.A w = some rows
  at_ : ∀ w ∈ M.ats, ∃ r, getA M.B w = some r
  nl : M.nms.length ≤ 5
  atl : M.ats.length ≤ 5
def succM (M : Mo) (w : List Nat) (x : Nat) : List Int := ((getA M.A w).getD []).getD x []
def mrkM (M : Mo) (w : List Nat) : List Int := (getA M.B w).getD []
theorem WfMo.row {M : Mo} (h : WfMo M) (w : List Nat) (x : Nat) : (succM M w x).length ≤ 61 ∧ ∀ y ∈ succM M w x, 0 ≤ y ∧ y < M.count := by
  unfold succM
  cases e : getA M.A w with
  | none => simp
  | some rows =>
    have := (h.A _ (getA_mem e)).2.2
    simp only [Option.getD_some]
    cases e2 : rows[x]? with
    | none => rw [List.getD_eq_getElem?_getD, e2]; simp
    | some r => rw [List.getD_eq_getElem?_getD, e2]; exact this r (List.mem_of_getElem? e2)
/-- what the tables say of a new model -/
structure MoOf (ld : List (List Nat × List (Int × Int))) (pl : List (List Nat × List Int)) (M : Mo) : Prop where
  a1 : ∀ w rows, getA M.A w = some rows → ∃ p ∈ ld, p.1 = w ∧ PairRows M.count p.2 rows
  a2 : ∀ w, getA M.A w = none → ∀ p ∈ ld, p.1 = w → p.2 = []
  b1 : ∀ w r, getA M.B w = some r → ∃ p ∈ pl, p.1 = w ∧ IsSrt r p.2
  b2 : ∀ w, getA M.B w = none → ∀ p ∈ pl, p.1 = w → p.2 = []
abbrev prsU (ps : List (Int × Int)) : U := .lst (ps.map pairU)
def ldU (l : List (List Nat × List (Int × Int))) : U := .dct (l.map fun p => key p.1) (l.map fun p => prsU p.2)
def spInit : FS := ⟨4, fun us S R _ => ∃ (a : Addr) (count : Nat) (ld : List (List Nat × List (Int × Int))) (pl : List (List Nat × List Int)), us = [.ref a, .int count, ldU ld, spU pl] ∧ S a = some (.ins 0 []) ∧ 1 ≤ count ∧ count ≤ 64 ∧ ld.length ≤ 5 ∧ pl.length ≤ 5 ∧ (∀ p ∈ ld, IsName p.1 ∧ PairsOk count p.2) ∧ (∀ p ∈ pl, IsWord p.1 ∧ p.2.length < 64 ∧ ∀ y ∈ p.2, 0 ≤ y ∧ y < count) ∧
  ∀ M S', M.count = count → WfMo M → MoOf ld pl M → IsMo S' a M → Kp [a] S S' → R .non S'⟩
theorem keyV_key (w : List Nat) : keyV (key w) = .str w := by simp [keyV, key, Str.cps]
theorem items_map {α : Type} (l : List (List Nat × α)) (g : α → U) : (((l.map fun p => key p.1).zip (l.map fun p => g p.2)).map fun kv => U.tup [keyV kv.1, kv.2]) = l.map fun p => .tup [.str p.1, g p.2] := by
  rw [List.zip_map', List.map_map]
  exact List.map_congr_left fun p _ => by simp only [Function.comp_apply, keyV_key]
theorem PairRows.ok {count : Nat} {ps : List (Int × Int)} {rows : List (List Int)} (h : PairRows count ps rows) (o : PairsOk count ps) : RowsOk count 61 rows := by
  refine ⟨h.1, fun r hr => ?_⟩
  obtain ⟨x, hx⟩ := List.mem_iff_getElem?.mp hr
  have hx2 := (List.getElem?_eq_some_iff.mp hx).1
  have s := h.2 x r hx
  refine ⟨Nat.le_trans s.len (o.2 x (by rw [← h.1]; exact hx2)), fun y hy => ?_⟩
  have := (s.2 y).mp hy
  unfold secs at this
  obtain ⟨p, hp, rfl⟩ := List.mem_map.mp this
  have := o.1 p (List.mem_filter.mp hp).1
  exact ⟨this.2.2.1, this.2.2.2⟩
theorem IsSrt.b {r l : List Int} {count : Nat} (h : IsSrt r l) (b : ∀ y ∈ l, 0 ≤ y ∧ y < (count : Int)) : ∀ y ∈ r, 0 ≤ y ∧ y < (count : Int) := fun y hy => b y ((h.2 y).mp hy)
theorem keys_ts {α : Type} (l : List (List Nat × α)) (g : List Nat × α → L2.Key × U) (hg : ∀ p, (g p).1 = key p.1) : (l.map g).map (·.1) = (l.map (·.1)).map fun t => Sum.inr ⟨t.toArray⟩ := by
  rw [List.map_map, List.map_map]
  exact List.map_congr_left fun p _ => hg p
theorem get_mem {κ α : Type} [DecidableEq κ] {l : List (κ × α)} {w : κ} (h : w ∈ l.map (·.1)) : ∃ r, getA l w = some r := by
  have := has_key.mpr h
  cases e : getA l w with
  | none => rw [e] at this; cases this
  | some r => exact ⟨r, rfl⟩
def InA (ld : List (List Nat × List (Int × Int))) (pl : List (List Nat × List Int)) (a d1 : Addr) (count : Nat) (S : Sto) (ld' : List (List Nat × List (Int × Int))) (ρ' : Mm.Env) (S' : Sto) : Prop := ∃ (x1 x2 : Option U) (A : List (List Nat × List (List Int))), ρ' = [some (.ref a), some (.int count), some (ldU ld), some (spU pl), x1, x2, none, none] ∧ S' a = some (.ins 0 [("world_count", .int count), ("_arrows", .ref d1)]) ∧ S' d1 = some (.dct (A.map lkE)) ∧ Kp [a] S S' ∧ A.length ≤ ld'.length ∧ (∀ p ∈ A, IsName p.1 ∧ RowsOk count 61 p.2) ∧ (∀ w rows, getA A w = some rows → ∃ p ∈ ld', p.1 = w ∧ PairRows count p.2 rows) ∧ (∀ w, getA A w = none → ∀ p ∈ ld', p.1 = w → p.2 = [])
def InB (ld : List (List Nat × List (Int × Int))) (pl : List (List Nat × List Int)) (a d1 d2 : Addr) (x1 x2 : Option U) (count : Nat) (A : List (List Nat × List (List Int))) (S : Sto) (pl' : List (List Nat × List Int)) (ρ' : Mm.Env) (S' : Sto) : Prop := ∃ (x3 x4 : Option U) (B : List (List Nat × List Int)), ρ' = [some (.ref a), some (.int count), some (ldU ld), some (spU pl), x1, x2, x3, x4] ∧ S' a = some (.ins 0 [("world_count", .int count), ("_arrows", .ref d1), ("_marks", .ref d2)]) ∧ S' d1 = some (.dct (A.map lkE)) ∧ S' d2 = some (.dct (B.map spE)) ∧ Kp [a] S S' ∧ B.length ≤ pl'.length ∧ (∀ p ∈ B, IsWord p.1 ∧ p.2.length < 64 ∧ ∀ y ∈ p.2, 0 ≤ y ∧ y < (count : Int)) ∧ (∀ w r, getA B w = some r → ∃ p ∈ pl', p.1 = w ∧ IsSrt r p.2) ∧ (∀ w, getA B w = none → ∀ p ∈ pl', p.1 = w → p.2 = [])
theorem body_init (G : GV) (mG : GMono G) (hA : Attrs G) (h0 : G.fns[0]? = some spIsName) (h1 : G.fns[1]? = some spPairs) (h2 : G.fns[2]? = some spWorlds) : ∀ us S R RX, us.length = pr_Model_init.length → spInit.sp us S R RX → wCms G (fun x _ S' => RX x S') ir_Model_init (startU nm_Model_init us) S { nx := fun _ S' => R .non S', rt := R } := by
  rintro us S R RX - ⟨a, count, ld, pl, rfl, ha, hc1, hc2, ll, pll, hld, hpl, k⟩
  have e0 : startU nm_Model_init [.ref a, .int count, ldU ld, spU pl] = [some (.ref a), some (.int count), some (ldU ld), some (spU pl), none, none, none, none] := rfl
  rw [e0]
  unfold ir_Model_init
  refine run_cons ?_
  have n1 : ¬ (count : Int) < 1 := by omega
  simp_all! [n1]
  refine run_nil (run_cons ?_)
  simp_all! [ha, hA.a0, putU]
  refine run_cons ?_
  dsimp!
  intro d1 hd1
  have nd1 : d1 ≠ a := fun z => by rw [z, Sto.put_same] at hd1; cases hd1
  have fd1 : S d1 = none := by rw [Sto.put_ne nd1] at hd1; exact hd1
  simp only [n_setF, insAt, Sto.put_ne (Ne.symm nd1), Sto.put_same]
  simp_all! [hA.a1, putU]
  have ka : ∀ {S'}, Kp [a] S S' → ∀ {o}, Kp [a] S (S'.put a o) := fun h _ => h.put (.inr (by simp))
  refine cut mG (InA ld pl a d1 count S ld) ?_ ?_
  · dsimp! [ldU]
    rw [items_map ld prsU]
    refine for_inv mG (fun i => InA ld pl a d1 count S (ld.take i))
      ⟨_, _, [], rfl, Sto.put_same, (Sto.put_ne nd1).trans Sto.put_same, ka ((ka Kp.refl).put (.inl fd1)), Nat.le_refl _, by simp, fun w rows h => (by cases h), fun w _ p hp => by simp at hp⟩ ?_ ?_
    · rintro i x ρ' S' hx ⟨x1, x2, A, rfl, g1, g2, g3, g4, g5, g6, g7⟩
      rw [List.getElem?_map, Option.map_eq_some_iff] at hx
      obtain ⟨⟨w, ps⟩, hp, rfl⟩ := hx
      have hi : i < ld.length := (List.getElem?_eq_some_iff.mp hp).1
      obtain ⟨hw, hps⟩ := hld _ (List.mem_of_getElem? hp)
      have tk : ld.take (i + 1) = ld.take i ++ [(w, ps)] := by rw [List.take_add_one, hp]; rfl
      refine ⟨trivial, ?_⟩
      dsimp! [setsU]
      have rest : ∀ D : Out, (∀ ρ' S', InA ld pl a d1 count S (ld.take (i + 1)) ρ' S' → D.nx ρ' S') → wCms G (fun x _ S' => RX x S') (Cms.cons (Cm.ite (T.cmp Cop.gt (E.blt Blt.len (Es.cons (E.var 5) Es.nil)) (E.lit (U.int 0))) (Cms.cons (Cm.setIx (E.fld (E.var 0) "_arrows") (E.var 4) (E.call 1 (Es.cons (E.var 1) (Es.cons (E.var 5) Es.nil)))) Cms.nil) Cms.nil) Cms.nil) [some (.ref a), some (.int count), some (ldU ld), some (spU pl), some (.str w), some (prsU ps), none, none] S' D := by
        intro D hD
        have lt : (ld.take (i + 1)).length = (ld.take i).length + 1 := by rw [tk]; simp
        have lti := List.length_take_le i ld
        refine run_cons ?_
        dsimp! [List.length_map]
        refine ite2 (fun hr => ?_) (fun hr => run_nil ?_)
        · refine run_cons ?_
          dsimp! [h1]
          refine ⟨rfl, count, ps, rfl, hc1, hc2, hps, fun rows S2 c1 c2 => ?_⟩
          have g1' := c2.at g1 (by simp)
          have g2' := c2.at g2 (by simp)
          simp_all! [g1', hA.a1]
          refine ⟨.ref d1, rfl, ?_⟩
          have lw := putA_len A w rows
          refine set_lk g2' (by omega) ?_
          refine run_nil (hD _ _ ⟨_, _, putA A w rows, rfl, (Sto.put_ne (Ne.symm nd1)).trans g1', Sto.put_same, (g3.trans fun p o e _ => c2.at e (by simp)).put (.inl fd1), by omega, putA_all g5 ⟨hw, c1.ok hps⟩, fun v r hv => ?_, fun v hv p hp2 e => ?_⟩)
          · rw [getA_put] at hv
            split at hv
            · next e =>
              cases hv
              exact ⟨(w, ps), by rw [tk]; simp, e.symm, c1⟩
            · obtain ⟨p, hp1, hp2⟩ := g6 v r hv
              exact ⟨p, by rw [tk]; exact List.mem_append_left _ hp1, hp2⟩
          · rw [getA_put] at hv
            split at hv
            · cases hv
            · next ne =>
              rw [tk] at hp2
              rcases List.mem_append.mp hp2 with hp2 | hp2
              · exact g7 v hv p hp2 e
              · rw [List.mem_singleton.mp hp2] at e
                exact absurd e.symm ne
        · have eps : ps = [] := by
            cases ps with
            | nil => rfl
            | cons _ _ => exact absurd hr (by simp)
          refine hD _ _ ⟨_, _, A, rfl, g1, g2, g3, by omega, g5, fun v r hv => ?_, fun v hv p hp2 e => ?_⟩
          · obtain ⟨p, hp1, hp2⟩ := g6 v r hv
            exact ⟨p, by rw [tk]; exact List.mem_append_left _ hp1, hp2⟩
          · rw [tk] at hp2
            rcases List.mem_append.mp hp2 with hp2 | hp2
            · exact g7 v hv p hp2 e
            · rw [List.mem_singleton.mp hp2]; exact eps
      refine run_cons ?_
      dsimp!
      rcases hw with rfl | hw
      · simp_all! []
        refine run_nil ?_
        exact rest _ fun _ _ h => h
      · by_cases e : w = z_if
        · subst e
          simp_all! []
          refine run_nil ?_
          exact rest _ fun _ _ h => h
        · have e' : (w == z_if) = false := by simpa using e
          simp_all! [e', h0]
          refine (is_name_ok hw ?_).2
          simp_all! []
          refine run_nil ?_
          exact rest _ fun _ _ h => h
    · rintro ρ' S' ⟨x1, x2, A, rfl, g1, g2, g3, g4, g5, g6, g7⟩
      rw [List.length_map, List.take_length] at g4 g6 g7
      exact ⟨trivial, _, _, A, rfl, g1, g2, g3, g4, g5, g6, g7⟩
  rintro ρ' S1 ⟨x1, x2, A, rfl, g1, g2, g3, g4, g5, g6, g7⟩
  refine run_cons ?_
  dsimp!
  intro d2 hd2
  have nd2 : d2 ≠ a := fun z => by rw [z, g1] at hd2; cases hd2
  have nd12 : d2 ≠ d1 := fun z => by rw [z, g2] at hd2; cases hd2
  have fd2 : S d2 = none := g3.fresh (by simp [nd2]) hd2
  simp only [n_setF, insAt, Sto.put_ne (Ne.symm nd2), g1]
  simp_all! [hA.a2, putU]
  refine cut mG (InB ld pl a d1 d2 x1 x2 count A S pl) ?_ ?_
  · dsimp! [spU]
    rw [items_map pl intsU]
    refine for_inv mG (fun i => InB ld pl a d1 d2 x1 x2 count A S (pl.take i))
      ⟨_, _, [], rfl, Sto.put_same, (Sto.put_ne nd1).trans ((Sto.put_ne (Ne.symm nd12)).trans g2), (Sto.put_ne nd2).trans Sto.put_same, ka (g3.put (.inl fd2)), Nat.le_refl _, by simp, fun w rows h => (by cases h), fun w _ p hp => by simp at hp⟩ ?_ ?_
    · rintro i x ρ' S' hx ⟨x3, x4, B, rfl, f1, f2, f3, f4, f5, f6, f7, f8⟩
      rw [List.getElem?_map, Option.map_eq_some_iff] at hx
      obtain ⟨⟨w, ps⟩, hp, rfl⟩ := hx
      have hi : i < pl.length := (List.getElem?_eq_some_iff.mp hp).1
      obtain ⟨hw, hps, hb⟩ := hpl _ (List.mem_of_getElem? hp)
      have tk : pl.take (i + 1) = pl.take i ++ [(w, ps)] := by rw [List.take_add_one, hp]; rfl
      have lt : (pl.take (i + 1)).length = (pl.take i).length + 1 := by rw [tk]; simp
      have lti := List.length_take_le i pl
      refine ⟨trivial, ?_⟩
      dsimp! [setsU]
      refine run_cons ?_
      simp_all! [h0]
      refine (is_name_ok hw ?_).2
      simp_all! []
      refine run_nil (run_cons ?_)
      dsimp! [List.length_map]
      refine ite2 (fun hr => ?_) (fun hr => run_nil ?_)
      · refine run_cons ?_
        dsimp! [h2]
        refine ⟨rfl, count, ps, rfl, hps, hb, fun r c1 => ?_⟩
        simp_all! [f1, hA.a2]
        refine ⟨.ref d2, rfl, ?_⟩
        have lw := putA_len B w r
        refine set_sp f3 (by omega) ?_
        have rl := c1.len
        refine run_nil ⟨_, _, putA B w r, rfl, (Sto.put_ne (Ne.symm nd2)).trans f1, (Sto.put_ne (Ne.symm nd12)).trans f2, Sto.put_same, f4.put (.inl fd2), by omega, putA_all f6 ⟨hw, Nat.lt_of_le_of_lt rl hps, c1.b hb⟩, fun v r hv => ?_, fun v hv p hp2 e => ?_⟩
        · rw [getA_put] at hv
          split at hv
          · next e =>
            cases hv
            exact ⟨(w, ps), by rw [tk]; simp, e.symm, c1⟩
          · obtain ⟨p, hp1, hp2⟩ := f7 v r hv
            exact ⟨p, by rw [tk]; exact List.mem_append_left _ hp1, hp2⟩
        · rw [getA_put] at hv
          split at hv
          · cases hv
          · next ne =>
            rw [tk] at hp2
            rcases List.mem_append.mp hp2 with hp2 | hp2
            · exact f8 v hv p hp2 e
            · rw [List.mem_singleton.mp hp2] at e
              exact absurd e.symm ne
      · have eps : ps = [] := by
          cases ps with
          | nil => rfl
          | cons _ _ => exact absurd hr (by simp)
        dsimp only
        refine run_nil ⟨_, _, B, rfl, f1, f2, f3, f4, by omega, f6, fun v r hv => ?_, fun v hv p hp2 e => ?_⟩
        · obtain ⟨p, hp1, hp2⟩ := f7 v r hv
          exact ⟨p, by rw [tk]; exact List.mem_append_left _ hp1, hp2⟩
        · rw [tk] at hp2
          rcases List.mem_append.mp hp2 with hp2 | hp2
          · exact f8 v hv p hp2 e
          · rw [List.mem_singleton.mp hp2]; exact eps
    · rintro ρ' S' ⟨x3, x4, B, rfl, f1, f2, f3, f4, f5, f6, f7, f8⟩
      rw [List.length_map, List.take_length] at f5 f7 f8
      exact ⟨trivial, _, _, B, rfl, f1, f2, f3, f4, f5, f6, f7, f8⟩
  rintro ρ' S2 ⟨x3, x4, B, rfl, f1, f2, f3, f4, f5, f6, f7, f8⟩
  refine run_cons ?_
  simp_all! [f1, hA.a1]
  refine ⟨.ref d1, rfl, _, by simp only [dctOf, f2], A.map (·.1), keys_ts A lkE fun p => rfl, by rw [List.length_map]; omega, fun nms pn _ => ?_⟩
  simp_all! [f1, hA.a3, putU]
  refine run_cons ?_
  simp_all! [hA.a2]
  refine ⟨.ref d2, rfl, _, by simp only [dctOf, Sto.put_ne nd2, f3], B.map (·.1), keys_ts B spE fun p => rfl, by rw [List.length_map]; omega, fun ats pa _ => ?_⟩
  simp_all! [hA.a4, putU]
  refine run_nil ?_
  have ln := pn.length_eq
  have la := pa.length_eq
  rw [List.length_map] at ln la
  refine k ⟨count, A, B, nms, ats⟩ _ rfl ⟨hc1, hc2, g5, f6, by show A.length ≤ 5; omega, by show B.length ≤ 5; omega, fun w hw => get_mem (pn.mem_iff.mp hw), fun w hw => get_mem (pa.mem_iff.mp hw), by show nms.length ≤ 5; omega, by show ats.length ≤ 5; omega⟩ ⟨g6, g7, f7, f8⟩ ⟨d1, d2, Sto.put_same, (Sto.put_ne nd1).trans f2, (Sto.put_ne nd2).trans f3⟩ (ka f4)
end K22
namespace K22
open PySem PySem.Spec PyProof.Rows L2 Mm
def arrL (M : Mo) (w : List Nat) (n : Nat) : List (Int × Int) := (List.range n).flatMap fun x => (succM M w x).map fun y => ((x : Int), y)
theorem arrL_succ (M : Mo) (w : List Nat) (n : Nat) : arrL M w (n + 1) = arrL M w n ++ (succM M w n).map fun y => ((n : Int), y) := by
  unfold arrL
  rw [List.range_succ, List.flatMap_append]
  simp
theorem WfMo.arr_len {M : Mo} (h : WfMo M) (w : List Nat) : ∀ n, (arrL M w n).length ≤ 61 * n
  | 0 => by simp [arrL]
  | n + 1 => by
    rw [arrL_succ, List.length_append, List.length_map]
    have := (h.row w n).1
    have := h.arr_len w n
    omega
theorem nin_dct {S : Sto} {p : Addr} {w : List Nat} {k : Bool → Prop} {α : Type} {l : List (List Nat × α)} {g : α → U} (h : S p = some (.dct (l.map fun p => (key p.1, g p.2)))) (hk : k (!(getA l w).isSome)) : copW .notin (.str w) (.ref p) S k := by
  rw [n_nin]
  simp only [inW, h]
  refine ⟨key w, rfl, ?_⟩
  rw [getA_map, Option.isSome_map]
  exact hk
def spArrows : FS := ⟨2, fun us S R _ => ∃ m w M, us = [.ref m, .str w] ∧ IsMo S m M ∧ WfMo M ∧ R (prsU (arrL M w M.count)) S⟩
theorem arrows_none {M : Mo} {w : List Nat} (h : getA M.A w = none) : ∀ n, arrL M w n = []
  | 0 => rfl
  | n + 1 => by
    rw [arrL_succ, arrows_none h n]
    unfold succM; rw [h]; simp
theorem body_arrows (G : GV) (mG : GMono G) (hA : Attrs G) : ∀ us S R RX, us.length = pr_Model_arrows.length → spArrows.sp us S R RX → wCms G (fun x _ S' => RX x S') ir_Model_arrows (startU nm_Model_arrows us) S { nx := fun _ S' => R .non S', rt := R } := by
  rintro us S R RX - ⟨m, w, M, rfl, ⟨d1, d2, f0, f1, f2⟩, hM, k⟩
  have e0 : startU nm_Model_arrows [.ref m, .str w] = [some (.ref m), some (.str w), none, none, none] := rfl
  rw [e0]
  unfold ir_Model_arrows
  have c1 := hM.c1
  have c2 := hM.c2
  refine run_cons ?_
  simp_all! [f0, hA.a1, moF]
  refine ⟨.ref d1, rfl, nin_dct (g := rowsU) f1 ?_⟩
  cases hg : getA M.A w with
  | none =>
    simp_all! [Option.isSome_none]
    refine run_cons ?_
    dsimp!
    have := arrows_none hg M.count
    rw [this] at k
    exact k
  | some rows =>
    simp_all! [Option.isSome_some]
    refine run_nil (run_cons ?_)
    simp_all! [f0, hA.a1, moF]
    refine ⟨.ref d1, rfl, ix_dct f1 (u := rowsU rows) ?_ ?_⟩
    · show getA (M.A.map fun p => (key p.1, rowsU p.2)) (key w) = _
      rw [getA_map, hg]; rfl
    have hrow := (hM.A _ (getA_mem hg)).2
    refine run_cons ?_
    simp_all! [f0, hA.a0, moF]
    refine ⟨.int M.count, rfl, ?_⟩
    dsimp!
    refine ⟨by omega, ?_⟩
    rw [Int.toNat_natCast]
    refine lo_by mG (fun i acc S' => S' = S ∧ acc = (arrL M w i).map pairU) ⟨rfl, rfl⟩ ?_ ?_
    · rintro i x acc S' hx ⟨rfl, rfl⟩
      obtain ⟨rfl, hi⟩ := rngU_at hx
      refine ⟨trivial, ?_⟩
      have hi2 : i < rows.length := by rw [hrow.1]; exact hi
      have hs : succM M w i = rows[i] := by
        unfold succM; rw [hg, Option.getD_some, List.getD_eq_getElem?_getD, List.getElem?_eq_getElem hi2]; rfl
      have ha : L2.atI (rows.map intsU) (0 + (i : Int)) = some (intsU rows[i]) := by
        rw [Int.zero_add, at_nat (by omega), Int.toNat_natCast, List.getElem?_map, List.getElem?_eq_getElem hi2]; rfl
      dsimp! [wipeU, ha]
      have l1 := hM.arr_len w i
      have l2 := (hM.row w i).1
      refine li_by mG (fun j acc S2 => S2 = S' ∧ acc = (arrL M w i).map pairU ++ ((rows[i].take j).map fun y => pairU ((i : Int), y))) ⟨rfl, by simp⟩ ?_ ?_
      · rintro j x acc S' hx ⟨rfl, rfl⟩
        obtain ⟨z, hz, rfl⟩ := ints_map hx
        refine ⟨trivial, ?_⟩
        dsimp! [wipeU]
        have hj := (List.getElem?_eq_some_iff.mp hz).1
        rw [← hs] at hj
        refine ⟨by simp; rw [sizeLine_eq]; omega, ?_⟩
        rw [List.take_add_one, hz]
        simp
      · rintro acc S' ⟨rfl, rfl⟩
        refine ⟨trivial, rfl, ?_⟩
        rw [List.length_map, List.take_length, arrL_succ, hs]
        simp
    · rintro acc S' ⟨rfl, rfl⟩
      refine ⟨trivial, ?_⟩
      dsimp!
      rw [rngU_length]
      exact k
def spMarked : FS := ⟨2, fun us S R _ => ∃ m w M, us = [.ref m, .str w] ∧ IsMo S m M ∧ R (intsU (mrkM M w)) S⟩
theorem body_marked (G : GV) (mG : GMono G) (hA : Attrs G) : ∀ us S R RX, us.length = pr_Model_marked.length → spMarked.sp us S R RX → wCms G (fun x _ S' => RX x S') ir_Model_marked (startU nm_Model_marked us) S { nx := fun _ S' => R .non S', rt := R } := by
  rintro us S R RX - ⟨m, w, M, rfl, ⟨d1, d2, f0, f1, f2⟩, k⟩
  have e0 : startU nm_Model_marked [.ref m, .str w] = [some (.ref m), some (.str w)] := rfl
  rw [e0]
  unfold ir_Model_marked
  refine run_cons ?_
  simp_all! [f0, hA.a2, moF]
  refine ⟨.ref d2, rfl, nin_dct (g := intsU) f2 ?_⟩
  unfold mrkM at k
  cases hg : getA M.B w with
  | none =>
    simp_all! [Option.isSome_none]
    refine run_cons ?_
    dsimp!
    rw [hg] at k
    exact k
  | some r =>
    simp_all! [Option.isSome_some]
    refine run_nil (run_cons ?_)
    simp_all! [f0, hA.a2, moF]
    refine ⟨.ref d2, rfl, ix_dct f2 (u := intsU r) ?_ ?_⟩
    · show getA (M.B.map fun p => (key p.1, intsU p.2)) (key w) = _
      rw [getA_map, hg]; rfl
    dsimp!
    rw [hg] at k
    exact k
end K22
namespace K22
open PySem PySem.Spec PyProof.Rows L2 Mm
def apU (w : List Nat) (p : Int × Int) : U := .tup [.str w, .int p.1, .int p.2]
def mpU (w : List Nat) (v : Int) : U := .tup [.str w, .int v]
def arrRows (M : Mo) (ws : List (List Nat)) : List U := ws.flatMap fun w => (arrL M w M.count).map (apU w)
def mrkRows (M : Mo) (ws : List (List Nat)) : List U := ws.flatMap fun w => (mrkM M w).map (mpU w)
def plainU (M : Mo) : U := .tup [.int M.count, .tup (arrRows M M.nms), .tup (mrkRows M M.ats)]
theorem flat_one {α : Type} (ws : List (List Nat)) (f : List Nat → List α) (i : Nat) (w : List Nat) (h : ws[i]? = some w) : (ws.take (i + 1)).flatMap f = (ws.take i).flatMap f ++ f w := by
  rw [List.take_add_one, h, List.flatMap_append]; simp
theorem flat_len {α : Type} {m : Nat} (f : List Nat → List α) : ∀ (ws : List (List Nat)), (∀ w ∈ ws, (f w).length ≤ m) → (ws.flatMap f).length ≤ m * ws.length
  | [], _ => by simp
  | w :: ws, h => by
    have := flat_len f ws fun w hw => h w (List.mem_cons_of_mem _ hw)
    have := h w List.mem_cons_self
    rw [List.flatMap_cons, List.length_append, List.length_cons, Nat.mul_succ]; omega
def spPlain : FS := ⟨1, fun us S R _ => ∃ m M, us = [.ref m] ∧ IsMo S m M ∧ WfMo M ∧ R (plainU M) S⟩
theorem body_plain (G : GV) (mG : GMono G) (hA : Attrs G) (m0 : HasM G 0 spArrows) : ∀ us S R RX, us.length = pr_Model_plain.length → spPlain.sp us S R RX → wCms G (fun x _ S' => RX x S') ir_Model_plain (startU nm_Model_plain us) S { nx := fun _ S' => R .non S', rt := R } := by
  rintro us S R RX - ⟨m, M, rfl, hm, hM, k⟩
  obtain ⟨d1, d2, f0, f1, f2⟩ := id hm
  have e0 : startU nm_Model_plain [.ref m] = [some (.ref m), none, none, none, none, none, none, none] := rfl
  rw [e0]
  unfold ir_Model_plain
  have c2 := hM.c2
  have nl := hM.nl
  have atl := hM.atl
  have la : ∀ w, (arrL M w M.count).length ≤ 61 * 64 := fun w => Nat.le_trans (hM.arr_len w M.count) (Nat.mul_le_mul_left _ c2)
  have lm : ∀ w, (mrkM M w).length ≤ 64 := fun w => by
    unfold mrkM
    cases e : getA M.B w with
    | none => simp
    | some r => have : r.length < 64 := (hM.B _ (getA_mem e)).2.1; simp only [Option.getD_some]; omega
  refine run_cons ?_
  simp_all! [f0, hA.a3, moF]
  refine ⟨.tup (M.nms.map .str), rfl, ?_⟩
  dsimp only
  refine lo_by mG (fun i acc S' => S' = S ∧ acc = arrRows M (M.nms.take i)) ⟨rfl, rfl⟩ ?_ ?_
  · rintro i x acc S' hx ⟨rfl, rfl⟩
    obtain ⟨w, hw, rfl⟩ := strs_map hx
    refine ⟨trivial, ?_⟩
    dsimp! [wipeU, ↓e_omt m0]
    refine ⟨m, _, rfl, f0, IsMo.attrs hA, rfl, m, w, M, rfl, hm, hM, ?_⟩
    dsimp only
    have l0 : (arrRows M (M.nms.take i)).length ≤ 61 * 64 * 5 := by
      refine Nat.le_trans (flat_len _ _ fun w _ => by rw [List.length_map]; exact la w) ?_
      have := List.length_take_le i M.nms
      exact Nat.mul_le_mul_left _ (by have := List.length_take_le' i M.nms; omega)
    have lw := la w
    refine li_by mG (fun j acc S2 => S2 = S' ∧ acc = arrRows M (M.nms.take i) ++ ((arrL M w M.count).take j).map (apU w)) ⟨rfl, by simp⟩ ?_ ?_
    · rintro j x acc S2 hx ⟨rfl, rfl⟩
      rw [List.getElem?_map, Option.map_eq_some_iff] at hx
      obtain ⟨p, hp, rfl⟩ := hx
      have hj := (List.getElem?_eq_some_iff.mp hp).1
      refine ⟨trivial, ?_⟩
      dsimp! [wipeU, setsU]
      refine ⟨by simp; rw [sizeLine_eq]; omega, ?_⟩
      rw [List.take_add_one, hp]
      simp [apU]
    · rintro acc S2 ⟨rfl, rfl⟩
      refine ⟨trivial, rfl, ?_⟩
      rw [List.length_map, List.take_length]
      exact (flat_one M.nms _ i w hw).symm
  rintro acc S' ⟨rfl, rfl⟩
  refine ⟨trivial, ?_⟩
  rw [List.length_map, List.take_length]
  refine run_cons ?_
  simp_all! [f0, hA.a4, moF]
  refine ⟨.tup (M.ats.map .str), rfl, ?_⟩
  dsimp only
  refine lo_by mG (fun i acc S2 => S2 = S' ∧ acc = mrkRows M (M.ats.take i)) ⟨rfl, rfl⟩ ?_ ?_
  · rintro i x acc S' hx ⟨rfl, rfl⟩
    obtain ⟨w, hw, rfl⟩ := strs_map hx
    refine ⟨trivial, ?_⟩
    simp_all! [wipeU, f0, hA.a2, moF]
    obtain ⟨r, hr⟩ := hM.at_ w (List.mem_of_getElem? hw)
    refine ⟨.ref d2, rfl, ix_dct f2 (u := intsU r) ?_ ?_⟩
    · show getA (M.B.map fun p => (key p.1, intsU p.2)) (key w) = _
      rw [getA_map, hr]; rfl
    have er : r = mrkM M w := by unfold mrkM; rw [hr]; rfl
    rw [er]
    dsimp only
    have l0 : (mrkRows M (M.ats.take i)).length ≤ 64 * 5 := by
      refine Nat.le_trans (flat_len _ _ fun w _ => by rw [List.length_map]; exact lm w) ?_
      exact Nat.mul_le_mul_left _ (by have := List.length_take_le' i M.ats; omega)
    have lw := lm w
    refine li_by mG (fun j acc S2 => S2 = S' ∧ acc = mrkRows M (M.ats.take i) ++ ((mrkM M w).take j).map (mpU w)) ⟨rfl, by simp⟩ ?_ ?_
    · rintro j x acc S2 hx ⟨rfl, rfl⟩
      obtain ⟨p, hp, rfl⟩ := ints_map hx
      have hj := (List.getElem?_eq_some_iff.mp hp).1
      refine ⟨trivial, ?_⟩
      dsimp! [wipeU]
      refine ⟨by simp; rw [sizeLine_eq]; omega, ?_⟩
      rw [List.take_add_one, hp]
      simp [mpU]
    · rintro acc S2 ⟨rfl, rfl⟩
      refine ⟨trivial, rfl, ?_⟩
      rw [List.length_map, List.take_length]
      exact (flat_one M.ats _ i w hw).symm
  rintro acc S2 ⟨rfl, rfl⟩
  refine ⟨trivial, ?_⟩
  rw [List.length_map, List.take_length]
  refine run_cons ?_
  simp_all! [f0, hA.a0, moF]
  refine ⟨.int M.count, rfl, ?_⟩
  exact k
end K22
namespace K22
open PySem PySem.Spec PyProof.Rows L2 Mm
def HasI (G : GV) (sp : FS) : Prop := ∃ cv, G.cls[0]? = some cv ∧ cv.init = sp
theorem e_mk {G : GV} {RX : RXn} {es : Es} {ρ : Mm.Env} {S : Sto} {R : Post} {sp : FS} (h : HasI G sp) : wE G RX (.mk 0 es) ρ S R = wEs G RX es ρ S fun us S1 => us.length + 1 = sp.n ∧ ∀ a, S1 a = none → sp.sp (.ref a :: us) (S1.put a (.ins 0 [])) (fun u S2 => u = .non ∧ R (.ref a) S2) fun _ _ => False := by
  obtain ⟨cv, hc, rfl⟩ := h
  apply propext
  constructor
  · rintro ⟨cv', h1, h2⟩
    rw [hc] at h1; cases h1
    exact h2
  · intro h; exact ⟨cv, hc, h⟩
/-- pairs, row by row -/
def prF (f : Nat → List Int) (n : Nat) : List (Int × Int) := (List.range n).flatMap fun x => (f x).map fun y => ((x : Int), y)
theorem prF_succ (f : Nat → List Int) (n : Nat) : prF f (n + 1) = prF f n ++ (f n).map fun y => ((n : Int), y) := by
  unfold prF
  rw [List.range_succ, List.flatMap_append]
  simp
theorem secs_append (a b : List (Int × Int)) (x : Nat) : secs (a ++ b) x = secs a x ++ secs b x := by
  unfold secs; rw [List.filter_append, List.map_append]
theorem secs_row (l : List Int) (n x : Nat) : secs (l.map fun y => ((n : Int), y)) x = if n = x then l else [] := by
  unfold secs
  by_cases e : n = x
  · subst e
    rw [if_pos rfl, List.filter_eq_self.mpr, List.map_map]
    · exact List.map_id' l
    · intro p hp
      obtain ⟨y, _, rfl⟩ := List.mem_map.mp hp
      simp
  · rw [if_neg e, List.filter_eq_nil_iff.mpr]
    · rfl
    · intro p hp
      obtain ⟨y, _, rfl⟩ := List.mem_map.mp hp
      simp; omega
theorem secs_prF (f : Nat → List Int) (x : Nat) : ∀ n, secs (prF f n) x = if x < n then f x else []
  | 0 => by simp [prF, secs]
  | n + 1 => by
    rw [prF_succ, secs_append, secs_prF f x n, secs_row]
    by_cases h : x < n
    · rw [if_pos h, if_neg (by omega), if_pos (by omega), List.append_nil]
    · rw [if_neg h]
      by_cases e : n = x
      · rw [if_pos e, if_pos (by omega), e]; rfl
      · rw [if_neg e, if_neg (by omega)]; rfl
theorem prF_mem {f : Nat → List Int} {n : Nat} {p : Int × Int} (h : p ∈ prF f n) : ∃ x, x < n ∧ p.1 = (x : Int) ∧ p.2 ∈ f x := by
  unfold prF at h
  obtain ⟨x, hx, h⟩ := List.mem_flatMap.mp h
  obtain ⟨y, hy, rfl⟩ := List.mem_map.mp h
  exact ⟨x, List.mem_range.mp hx, rfl, hy⟩
theorem prF_nil {f : Nat → List Int} {n : Nat} (h : prF f n = []) : ∀ x, x < n → f x = [] := by
  intro x hx
  have := secs_prF f x n
  rw [h, if_pos hx] at this
  rw [← this]; rfl
theorem prF_len {f : Nat → List Int} {m : Nat} (h : ∀ x, (f x).length ≤ m) : ∀ n, (prF f n).length ≤ m * n
  | 0 => by simp [prF]
  | n + 1 => by
    rw [prF_succ, List.length_append, List.length_map, Nat.mul_succ]
    have := prF_len h n
    have := h n
    omega
def succD (d : Dr) (w : List Nat) (x : Nat) : List Int := ((getA d.lk w).getD []).getD x []
def mrkD (d : Dr) (w : List Nat) : List Int := (getA d.sp w).getD []
def prD (d : Dr) (w : List Nat) : List (Int × Int) := prF (succD d w) d.count
structure MdOf (d : Dr) (M : Mo) : Prop where
  n : M.count = d.count
  s : ∀ w x, x < d.count → ∀ v, v ∈ succM M w x ↔ v ∈ succD d w x
  m : ∀ w v, v ∈ mrkM M w ↔ v ∈ mrkD d w
theorem OkDr.row {k : Nat} {d : Dr} (h : OkDr k d) (w : List Nat) (x : Nat) : (succD d w x).length ≤ k ∧ ∀ y ∈ succD d w x, 0 ≤ y ∧ y < d.count := by
  unfold succD
  cases e : getA d.lk w with
  | none => simp
  | some rows =>
    have := (h.lk _ (getA_mem e)).2.2
    simp only [Option.getD_some]
    rw [List.getD_eq_getElem?_getD]
    cases e2 : rows[x]? with
    | none => simp
    | some r => exact this r (List.mem_of_getElem? e2)
theorem OkDr.mrk {k : Nat} {d : Dr} (h : OkDr k d) (w : List Nat) : (mrkD d w).length < 64 ∧ ∀ y ∈ mrkD d w, 0 ≤ y ∧ y < d.count := by
  unfold mrkD
  cases e : getA d.sp w with
  | none => simp
  | some r =>
    have := h.sp _ (getA_mem e)
    exact ⟨this.2.1, this.2.2.2⟩
theorem OkDr.prs {k : Nat} {d : Dr} (h : OkDr k d) (hk : k ≤ 61) (w : List Nat) : PairsOk d.count (prD d w) := by
  refine ⟨fun p hp => ?_, fun x hx => ?_⟩
  · obtain ⟨x, hx, e, hy⟩ := prF_mem hp
    have := (h.row w x).2 _ hy
    omega
  · have e : secs (prD d w) x = succD d w x := by
      unfold prD; rw [secs_prF, if_pos hx]
    rw [e]
    have := (h.row w x).1
    omega
theorem mdOf {k : Nat} {d : Dr} {M : Mo} {ld : List (List Nat × List (Int × Int))} {pl : List (List Nat × List Int)} (hn : M.count = d.count) (wf : WfMo M) (h : MoOf ld pl M) (l1 : ∀ p ∈ ld, p.2 = prD d p.1) (l2 : ∀ w, (getA d.lk w).isSome = true → prD d w ≠ [] → (getA ld w).isSome = true)
    (p1 : ∀ p ∈ pl, p.2 = mrkD d p.1) (p2 : ∀ w, mrkD d w ≠ [] → (getA pl w).isSome = true) : MdOf d M := by
  refine ⟨hn, fun w x hx v => ?_, fun w v => ?_⟩
  · cases e : getA M.A w with
    | some rows =>
      obtain ⟨p, hp, e1, hr⟩ := h.a1 w rows e
      have hx2 : x < rows.length := by rw [hr.1, hn]; exact hx
      have s := hr.2 x rows[x] (List.getElem?_eq_getElem hx2)
      have e2 : succM M w x = rows[x] := by
        unfold succM; rw [e, Option.getD_some, List.getD_eq_getElem?_getD, List.getElem?_eq_getElem hx2]; rfl
      rw [e2, s.2 v, l1 p hp, e1]
      unfold prD
      rw [secs_prF, if_pos hx]
    | none =>
      have e2 : succM M w x = [] := by unfold succM; rw [e]; simp
      have e3 : succD d w x = [] := by
        cases g : getA d.lk w with
        | none => unfold succD; rw [g]; simp
        | some rows =>
          by_cases z : prD d w = []
          · exact prF_nil z x hx
          · have := l2 w (by rw [g]; rfl) z
            obtain ⟨ps, hps⟩ := Option.isSome_iff_exists.mp this
            have m := getA_mem hps
            have n1 := h.a2 w e _ m rfl
            have n2 := l1 _ m
            exact absurd (n2.symm.trans n1) z
      rw [e2, e3]
  · cases e : getA M.B w with
    | some r =>
      obtain ⟨p, hp, e1, hr⟩ := h.b1 w r e
      have e2 : mrkM M w = r := by unfold mrkM; rw [e]; rfl
      rw [e2, hr.2 v, p1 p hp, e1]
    | none =>
      have e2 : mrkM M w = [] := by unfold mrkM; rw [e]; rfl
      have e3 : mrkD d w = [] := by
        apply Classical.byContradiction
        intro z
        obtain ⟨ps, hps⟩ := Option.isSome_iff_exists.mp (p2 w z)
        have m := getA_mem hps
        exact z ((p1 _ m).symm.trans (h.b2 w e _ m rfl))
      rw [e2, e3]
def ldE (p : List Nat × List (Int × Int)) : L2.Key × U := (key p.1, prsU p.2)
theorem set_ld {S : Sto} {p : Addr} {l : List (List Nat × List (Int × Int))} {w : List Nat} {r : List (Int × Int)} {K : Sto → Prop} (h : S p = some (.dct (l.map ldE))) (hl : l.length < 1000) (k : K (S.put p (.dct ((putA l w r).map ldE)))) : setIxW (.ref p) (.str w) (prsU r) S K := by
  rw [n_setS, h]
  refine ⟨by rw [List.length_map, sizeLine_eq]; omega, ?_⟩
  have := putA_map prsU w r l
  unfold key at this
  show K (S.put p (.dct (putA (l.map ldE) (.inr ⟨w.toArray⟩) (prsU r))))
  unfold ldE key
  rw [this]; exact k
theorem frz_ld {S : Sto} {p : Addr} {l : List (List Nat × List (Int × Int))} (h : S p = some (.dct (l.map ldE))) : Gst (.ref p) S (ldU l) (delS S [p]) := by
  obtain ⟨D, hd, rfl⟩ := Dfzs.dats (S := S) ((l.map ldE).map (·.2))
  have := gst_dct h hd
  rw [List.map_map, List.map_map] at this
  exact this
theorem ix_lk {S : Sto} {R : Post} {l : List (List Nat × List (List Int))} {w : List Nat} {r : List (List Int)} (h : getA l w = some r) (k : R (rowsU r) S) : idxW (lkU l) (.str w) S R := by
  refine ⟨_, rowsU r, rfl, ?_, k⟩
  show getA ((l.map fun p => key p.1).zip (l.map fun p => rowsU p.2)) (key w) = _
  rw [List.zip_map', getA_map, h]; rfl
theorem ix_sp {S : Sto} {R : Post} {l : List (List Nat × List Int)} {w : List Nat} {r : List Int} (h : getA l w = some r) (k : R (intsU r) S) : idxW (spU l) (.str w) S R := by
  refine ⟨_, intsU r, rfl, ?_, k⟩
  show getA ((l.map fun p => key p.1).zip (l.map fun p => intsU p.2)) (key w) = _
  rw [List.zip_map', getA_map, h]; rfl
theorem prs_data (ps : List (Int × Int)) : datas (ps.map pairU) = true := by
  induction ps with
  | nil => rfl
  | cons p ps ih => simp only [List.map_cons, datas, U.data, ih, Bool.and_true, pairU]
theorem prs_dep (ps : List (Int × Int)) : deps (ps.map pairU) ≤ 1 := by
  induction ps with
  | nil => simp [deps]
  | cons p ps ih => simp only [List.map_cons, deps, pairU, U.dep]; omega
theorem prs_eqable (ps : List (Int × Int)) : eqable (prsU ps) := ⟨prs_data ps, by
  have := prs_dep ps
  simp only [prsU, U.dep]; omega⟩
theorem ints_data (ps : List Int) : datas (ps.map U.int) = true := by
  induction ps with
  | nil => rfl
  | cons p ps ih => simp only [List.map_cons, datas, U.data, ih, Bool.and_true]
theorem ints_dep (ps : List Int) : deps (ps.map U.int) = 0 := by
  induction ps with
  | nil => rfl
  | cons p ps ih => simp only [List.map_cons, deps, U.dep, ih]; rfl
theorem ints_eqable (ps : List Int) : eqable (intsU ps) := ⟨ints_data ps, by
  simp only [intsU, U.dep, ints_dep]; omega⟩
theorem ueq_nil (xs : List U) : ueq (.lst xs) (.lst []) = xs.isEmpty := by
  cases xs <;> simp [ueq, ueqs]
theorem n_neW {a b : U} {S : Sto} {k : Bool → Prop} : copW .ne a b S k = eqW a b S fun b => k (!b) := rfl
theorem n_eqW {a b : U} {S : Sto} {k : Bool → Prop} : copW .eq a b S k = eqW a b S k := rfl
theorem nil_eqable : eqable (.lst []) := ⟨rfl, by simp [U.dep, deps]⟩
def spMade : FS := ⟨3, fun us S R _ => ∃ d : Dr, us = [.int d.count, lkU d.lk, spU d.sp] ∧ OkDr 61 d ∧ ∀ a S' M, WfMo M → MdOf d M → IsMo S' a M → Kp [] S S' → R (.ref a) S'⟩
/-- leads under way -/
def LdI (d : Dr) (S : Sto) (l : Addr) (ws : List (List Nat)) (ρ' : Mm.Env) (S' : Sto) : Prop := ∃ (x1 x2 x3 x4 : Option U) (ld : List (List Nat × List (Int × Int))), ρ' = [some (.int d.count), some (lkU d.lk), some (spU d.sp), some (.ref l), x1, x2, x3, x4, none, none] ∧ S' l = some (.dct (ld.map ldE)) ∧ Kp [] S S' ∧ ld.length ≤ ws.length ∧ (∀ p ∈ ld, IsName p.1 ∧ p.2 = prD d p.1) ∧ ∀ w ∈ ws, prD d w ≠ [] → (getA ld w).isSome = true
theorem body_made (G : GV) (mG : GMono G) (hI : HasI G spInit) : ∀ us S R RX, us.length = pr_law_made.length → spMade.sp us S R RX → wCms G (fun x _ S' => RX x S') ir_law_made (startU nm_law_made us) S { nx := fun _ S' => R .non S', rt := R } := by
  rintro us S R RX - ⟨d, rfl, hd, k⟩
  have e0 : startU nm_law_made [.int d.count, lkU d.lk, spU d.sp] = [some (.int d.count), some (lkU d.lk), some (spU d.sp), none, none, none, none, none, none, none] := rfl
  rw [e0]
  unfold ir_law_made
  have c2 := hd.c2
  have ll := hd.ll
  have sl := hd.sl
  refine run_cons ?_
  dsimp!
  intro l hl
  have plen : ∀ w n, n ≤ d.count → (prF (succD d w) n).length ≤ 61 * 64 := fun w n hn => Nat.le_trans (prF_len (fun x => (hd.row w x).1) n) (Nat.mul_le_mul_left _ (by omega))
  refine cut mG (LdI d S l (d.lk.map (·.1))) ?_ ?_
  · dsimp! [lkU]
    have ek : ((d.lk.map fun p => key p.1).map keyV) = (d.lk.map (·.1)).map U.str := by
      rw [List.map_map, List.map_map]
      exact List.map_congr_left fun p _ => keyV_key p.1
    rw [ek]
    refine for_inv mG (fun i => LdI d S l ((d.lk.map (·.1)).take i)) ⟨_, _, _, _, [], rfl, Sto.put_same, Kp.refl.put (.inl hl), Nat.le_refl _, by simp, by simp⟩ ?_ ?_
    · rintro i x ρ' S' hx ⟨x1, x2, x3, x4, ld, rfl, g1, g2, g3, g4, g5⟩
      obtain ⟨w, hw, rfl⟩ := strs_map hx
      have hw2 := hw
      rw [List.getElem?_map, Option.map_eq_some_iff] at hw2
      obtain ⟨⟨w', rows'⟩, hp, rfl⟩ := hw2
      have hi : i < d.lk.length := (List.getElem?_eq_some_iff.mp hp).1
      have hN := (hd.lk _ (List.mem_of_getElem? hp)).1
      obtain ⟨rows, hg⟩ := get_mem (l := d.lk) (w := w') (List.mem_of_getElem? hw)
      have hrow := (hd.lk _ (getA_mem hg)).2
      have tk := take_len hw
      have lti := List.length_take_le i (d.lk.map (·.1))
      refine ⟨trivial, ?_⟩
      dsimp!
      refine run_cons ?_
      dsimp! [n_al1]
      intro q hq
      have nql : l ≠ q := fun z => by rw [← z, g1] at hq; cases hq
      have fq : S q = none := g2.fresh (by simp) hq
      refine cut mG (fun ρ' S2 => ∃ x3 x4 : Option U, ρ' = [some (.int d.count), some (lkU d.lk), some (spU d.sp), some (.ref l), some (.str w'), some (.ref q), x3, x4, none, none] ∧ S2 l = some (.dct (ld.map ldE)) ∧ Kp [] S S2 ∧ S2 q = some (.lst ((prD d w').map pairU))) ?_ ?_
      · dsimp!
        refine ⟨by omega, ?_⟩
        rw [Int.toNat_natCast]
        refine for_inv mG (fun j ρ' S2 => ∃ x3 x4 : Option U, ρ' = [some (.int d.count), some (lkU d.lk), some (spU d.sp), some (.ref l), some (.str w'), some (.ref q), x3, x4, none, none] ∧ S2 l = some (.dct (ld.map ldE)) ∧ Kp [] S S2 ∧ S2 q = some (.lst ((prF (succD d w') j).map pairU))) ⟨_, _, rfl, (Sto.put_ne nql).trans g1, g2.put (.inl fq), Sto.put_same⟩ ?_ ?_
        · rintro j x ρ' S2 hx ⟨y3, y4, rfl, f1, f2, f3⟩
          obtain ⟨rfl, hj⟩ := rngU_at hx
          refine ⟨trivial, ?_⟩
          dsimp!
          refine cut mG (fun ρ' S2 => ∃ x4 : Option U, ρ' = [some (.int d.count), some (lkU d.lk), some (spU d.sp), some (.ref l), some (.str w'), some (.ref q), some (.int (0 + j)), x4, none, none] ∧ S2 l = some (.dct (ld.map ldE)) ∧ Kp [] S S2 ∧ S2 q = some (.lst ((prF (succD d w') (j + 1)).map pairU))) ?_ ?_
          · dsimp!
            refine ix_lk hg ?_
            have hj2 : j < rows.length := by rw [hrow.1]; exact hj
            have ha : L2.atI (rows.map intsU) (0 + (j : Int)) = some (intsU rows[j]) := by
              rw [Int.zero_add, at_nat (by omega), Int.toNat_natCast, List.getElem?_map, List.getElem?_eq_getElem hj2]; rfl
            have hs : succD d w' j = rows[j] := by
              unfold succD; rw [hg, Option.getD_some, List.getD_eq_getElem?_getD, List.getElem?_eq_getElem hj2]; rfl
            dsimp! [ha]
            have l1 := plen w' j (by omega)
            have l2 := (hd.row w' j).1
            refine for_inv mG (fun m ρ' S2 => ∃ x4 : Option U, ρ' = [some (.int d.count), some (lkU d.lk), some (spU d.sp), some (.ref l), some (.str w'), some (.ref q), some (.int (0 + j)), x4, none, none] ∧ S2 l = some (.dct (ld.map ldE)) ∧ Kp [] S S2 ∧ S2 q = some (.lst ((prF (succD d w') j).map pairU ++ (rows[j].take m).map fun y => pairU ((j : Int), y)))) ⟨_, rfl, f1, f2, by simpa using f3⟩ ?_ ?_
            · rintro m x ρ' S3 hx ⟨z4, rfl, r1, r2, r3⟩
              obtain ⟨z, hz, rfl⟩ := ints_map hx
              have hm := (List.getElem?_eq_some_iff.mp hz).1
              rw [← hs] at hm
              refine ⟨trivial, ?_⟩
              dsimp!
              refine run_cons ?_
              dsimp! [r3]
              refine ⟨by simp; rw [sizeLine_eq]; omega, ?_⟩
              refine run_nil ⟨_, rfl, (Sto.put_ne nql).trans r1, r2.put (.inl fq), ?_⟩
              rw [Sto.put_same, List.take_add_one, hz]
              simp
            · rintro ρ' S3 ⟨z4, rfl, r1, r2, r3⟩
              refine ⟨trivial, _, rfl, r1, r2, ?_⟩
              rw [r3, List.length_map, List.take_length, prF_succ, hs]
              simp
          · rintro ρ' S3 ⟨z4, rfl, r1, r2, r3⟩
            exact run_nil ⟨_, _, rfl, r1, r2, r3⟩
        · rintro ρ' S2 ⟨y3, y4, rfl, f1, f2, f3⟩
          rw [rngU_length] at f3
          exact ⟨trivial, _, _, rfl, f1, f2, f3⟩
      rintro ρ' S2 ⟨y3, y4, rfl, f1, f2, f3⟩
      refine run_cons ?_
      dsimp!
      rw [n_neW]
      refine eq_ref f3 (prs_eqable _) nil_eqable ?_
      rw [ueq_nil]
      have lt : ((d.lk.map (·.1)).take (i + 1)).length = ((d.lk.map (·.1)).take i).length + 1 := by rw [tk]; simp
      cases hz : prD d w' with
      | nil =>
        simp_all! []
        refine run_nil ?_
        dsimp only
        refine run_nil ⟨_, _, _, _, ld, rfl, f1, f2, by omega, g4, fun v hv nv => ?_⟩
        rw [tk] at hv
        rcases List.mem_append.mp hv with hv | hv
        · exact g5 v hv nv
        · rw [List.mem_singleton.mp hv] at nv
          exact absurd hz nv
      | cons p0 ps =>
        simp_all! []
        refine run_cons ?_
        rw [hz] at f3
        dsimp! [f3]
        refine set_ld (r := p0 :: ps) ((Sto.del_ne nql).trans f1) (by omega) ?_
        have pl := putA_len ld w' (p0 :: ps)
        refine run_nil ?_
        dsimp only
        refine run_nil ⟨_, _, _, _, putA ld w' (p0 :: ps), rfl, Sto.put_same, (f2.del (.inl fq)).put (.inl hl), by omega, putA_all g4 ⟨hN, hz.symm⟩, fun v hv nv => ?_⟩
        rw [tk] at hv
        rw [getA_put]
        split
        · rfl
        · next ne =>
          rcases List.mem_append.mp hv with hv | hv
          · exact g5 v hv nv
          · exact absurd (List.mem_singleton.mp hv) ne
    · rintro ρ' S' ⟨x1, x2, x3, x4, ld, rfl, g1, g2, g3, g4, g5⟩
      rw [List.length_map, List.take_length] at g3 g5
      exact ⟨trivial, _, _, _, _, ld, rfl, g1, g2, g3, g4, g5⟩
  rintro ρ' S1 ⟨x1, x2, x3, x4, ld, rfl, g1, g2, g3, g4, g5⟩
  rw [List.length_map] at g3
  refine run_cons ?_
  dsimp!
  intro t ht
  have ntl : l ≠ t := fun z => by rw [← z, g1] at ht; cases ht
  have ft : S t = none := g2.fresh (by simp) ht
  refine cut mG (fun ρ' S' => ∃ (x5 : Option U) (pl : List (List Nat × List Int)), ρ' = [some (.int d.count), some (lkU d.lk), some (spU d.sp), some (.ref l), x1, x2, x3, x4, some (.ref t), x5] ∧ S' l = some (.dct (ld.map ldE)) ∧ S' t = some (.dct (pl.map spE)) ∧ Kp [] S S' ∧ pl.length ≤ (d.sp.map (·.1)).length ∧ (∀ p ∈ pl, IsWord p.1 ∧ p.2 = mrkD d p.1) ∧ ∀ w ∈ d.sp.map (·.1), mrkD d w ≠ [] → (getA pl w).isSome = true) ?_ ?_
  · dsimp! [spU]
    have ek : ((d.sp.map fun p => key p.1).map keyV) = (d.sp.map (·.1)).map U.str := by
      rw [List.map_map, List.map_map]
      exact List.map_congr_left fun p _ => keyV_key p.1
    rw [ek]
    refine for_inv mG (fun i ρ' S' => ∃ (x5 : Option U) (pl : List (List Nat × List Int)), ρ' = [some (.int d.count), some (lkU d.lk), some (spU d.sp), some (.ref l), x1, x2, x3, x4, some (.ref t), x5] ∧ S' l = some (.dct (ld.map ldE)) ∧ S' t = some (.dct (pl.map spE)) ∧ Kp [] S S' ∧ pl.length ≤ ((d.sp.map (·.1)).take i).length ∧ (∀ p ∈ pl, IsWord p.1 ∧ p.2 = mrkD d p.1) ∧ ∀ w ∈ (d.sp.map (·.1)).take i, mrkD d w ≠ [] → (getA pl w).isSome = true) ⟨_, [], rfl, (Sto.put_ne ntl).trans g1, Sto.put_same, g2.put (.inl ft), Nat.le_refl _, by simp, by simp⟩ ?_ ?_
    · rintro i x ρ' S' hx ⟨x5, pl, rfl, f0, f1, f2, f3, f4, f5⟩
      obtain ⟨w, hw, rfl⟩ := strs_map hx
      have hw2 := hw
      rw [List.getElem?_map, Option.map_eq_some_iff] at hw2
      obtain ⟨⟨w', r'⟩, hp, rfl⟩ := hw2
      have hi : i < d.sp.length := (List.getElem?_eq_some_iff.mp hp).1
      have hN := (hd.sp _ (List.mem_of_getElem? hp)).1
      obtain ⟨r, hg⟩ := get_mem (l := d.sp) (w := w') (List.mem_of_getElem? hw)
      have er : mrkD d w' = r := by unfold mrkD; rw [hg]; rfl
      have tk := take_len hw
      have lti := List.length_take_le i (d.sp.map (·.1))
      have lt : ((d.sp.map (·.1)).take (i + 1)).length = ((d.sp.map (·.1)).take i).length + 1 := by rw [tk]; simp
      refine ⟨trivial, ?_⟩
      dsimp!
      refine run_cons ?_
      dsimp!
      refine ix_sp hg ?_
      rw [n_neW]
      refine eq_dat rfl (ints_eqable _) nil_eqable ?_
      rw [ueq_nil]
      cases r with
      | nil =>
        simp_all! []
        refine run_nil ?_
        dsimp only
        refine run_nil ⟨_, pl, rfl, f0, f1, f2, by omega, f4, fun v hv nv => ?_⟩
        rw [tk] at hv
        rcases List.mem_append.mp hv with hv | hv
        · exact f5 v hv nv
        · rw [List.mem_singleton.mp hv] at nv
          exact absurd er nv
      | cons p0 ps =>
        simp_all! []
        refine run_cons ?_
        dsimp!
        refine ix_sp hg ?_
        dsimp!
        refine set_sp (r := p0 :: ps) f1 (by omega) ?_
        have pln := putA_len pl w' (p0 :: ps)
        refine run_nil ?_
        dsimp only
        refine run_nil ⟨_, putA pl w' (p0 :: ps), rfl, (Sto.put_ne ntl).trans f0, Sto.put_same, f2.put (.inl ft), by omega, putA_all f4 ⟨hN, er.symm⟩, fun v hv nv => ?_⟩
        rw [tk] at hv
        rw [getA_put]
        split
        · rfl
        · next ne =>
          rcases List.mem_append.mp hv with hv | hv
          · exact f5 v hv nv
          · exact absurd (List.mem_singleton.mp hv) ne
    · rintro ρ' S' ⟨x5, pl, rfl, f0, f1, f2, f3, f4, f5⟩
      rw [List.length_map (as := d.sp.map _), List.take_length] at f3 f5
      exact ⟨trivial, _, pl, rfl, f0, f1, f2, f3, f4, f5⟩
  rintro ρ' S2 ⟨x5, pl, rfl, f0, f1, f2, f3, f4, f5⟩
  rw [List.length_map] at f3
  refine run_cons ?_
  dsimp! [↓e_mk hI]
  refine ⟨_, _, frz_ld f0, _, _, frz_sp ((delS_ne (by simp [Ne.symm ntl])).trans f1), rfl, fun a ha => ?_⟩
  have kk : Kp [] S (delS (delS S2 [l]) [t]) := (f2.delS (by simp [hl])).delS (by simp [ft])
  have fa : S a = none := kk.fresh (by simp) ha
  refine ⟨a, d.count, ld, pl, rfl, Sto.put_same, hd.c1, hd.c2, by omega, by omega, fun p hp => ⟨(g4 p hp).1, by rw [(g4 p hp).2]; exact hd.prs (Nat.le_refl _) _⟩, fun p hp => ⟨(f4 p hp).1, by rw [(f4 p hp).2]; exact hd.mrk _⟩, fun M S3 a1 a2 a3 a4 a5 => ⟨rfl, ?_⟩⟩
  refine k a S3 M a2 (mdOf (k := 61) a1 a2 a3 (fun p hp => (g4 p hp).2) (fun w hw nw => g5 w (has_key.mp hw) nw) (fun p hp => (f4 p hp).2) fun w nw => f5 w ?_ nw) a4 fun p o e _ => ?_
  · refine has_key.mp ?_
    cases z : getA d.sp w with
    | none => exact absurd (by unfold mrkD; rw [z]; rfl) nw
    | some _ => rfl
  · have npa : p ≠ a := fun z => by rw [z, fa] at e; cases e
    exact a5 p o ((Sto.put_ne npa).trans (kk p o e (by simp))) (by simpa using npa)
end K22
namespace K22
open PySem PySem.Spec PyProof.Rows L2 Mm
/-- names, in a list or in a tuple -/
def IsNs (u : U) (ws : List (List Nat)) : Prop := u = .lst (ws.map .str) ∨ u = .tup (ws.map .str)
theorem wI_any {G : GV} {RX : RXn} {ρ : Mm.Env} {S : Sto} {R : List U → (Sto → Prop) → Sto → Prop} {i : Nat} {y : U} {ws : List (List Nat)} (h : ρ[i]? = some (some y)) (hy : IsNs y ws) (k : R (ws.map .str) (fun _ => True) S) : wI G RX (.seq (.var i)) ρ S R := by
  rcases hy with rfl | rfl <;> simp only [wI, wE, h, Option.some.injEq, exists_eq_left'] <;> exact k
def wdM (M : Mo) : Wd := ⟨M.count, succM M, mrkM M⟩
def mkRow (M : Mo) (as : List (List Nat)) (x : Nat) : U := .tup (as.map fun a => .bl (decide ((x : Int) ∈ mrkM M a)))
theorem ints_mem {y : Int} {r : List Int} : (r.map U.int).any (fun z => ueq z (.int y)) = decide (y ∈ r) := by
  induction r with
  | nil => rfl
  | cons z r ih =>
    rw [List.map_cons, List.any_cons, ih]
    simp only [ueq, List.mem_cons]
    by_cases e : z = y
    · subst e; simp
    · have : ¬ y = z := fun q => e q.symm
      simp [e, this]
theorem ints_flat (r : List Int) : (r.map U.int).all U.flat = true := by simp [U.flat]
theorem in_ints {S : Sto} {r : List Int} {y : Int} {k : Bool → Prop} (hk : k (decide (y ∈ r))) : copW .isin (.int y) (intsU r) S k := ⟨_, rfl, rfl, ints_flat r, by rw [ints_mem]; exact hk⟩
theorem enum_at {xs : List U} {j : Nat} {u : U} (h : (xs.zipIdx.map fun xi => U.tup [.int (xi.2 : Int), xi.1])[j]? = some u) : ∃ x, xs[j]? = some x ∧ u = .tup [.int (j : Int), x] := by
  rw [List.getElem?_map, Option.map_eq_some_iff] at h
  obtain ⟨⟨x, i⟩, h1, rfl⟩ := h
  rw [List.getElem?_zipIdx, Option.map_eq_some_iff] at h1
  obtain ⟨y, h2, h3⟩ := h1
  simp at h3
  obtain ⟨rfl, rfl⟩ := h3
  exact ⟨_, h2, rfl⟩
theorem rng_u {n j : Nat} {f : Nat → U} {u : U} (h : ((List.range n).map f)[j]? = some u) : j < n ∧ u = f j := rng_at h
theorem take_rng {α : Type} {n j : Nat} (f : Nat → α) (h : j < n) : ((List.range n).map f).take (j + 1) = ((List.range n).map f).take j ++ [f j] := by
  rw [List.take_add_one, List.getElem?_map, List.getElem?_range h]; rfl
def spMarks : FS := ⟨2, fun us S R _ => ∃ m M u, ∃ as : List (List Nat), us = [.ref m, u] ∧ IsNs u as ∧ as.length ≤ 4 ∧ IsMo S m M ∧ WfMo M ∧ R (.lst ((List.range M.count).map (mkRow M as))) S⟩
theorem body_marks (G : GV) (mG : GMono G) (hA : Attrs G) (m1 : HasM G 1 spMarked) : ∀ us S R RX, us.length = pr_mark_rows.length → spMarks.sp us S R RX → wCms G (fun x _ S' => RX x S') ir_mark_rows (startU nm_mark_rows us) S { nx := fun _ S' => R .non S', rt := R } := by
  rintro us S R RX - ⟨m, M, u, as, rfl, hu, la, hm, hM, k⟩
  obtain ⟨d1, d2, f0, f1, f2⟩ := id hm
  have e0 : startU nm_mark_rows [.ref m, u] = [some (.ref m), some u, none, none, none, none, none, none] := rfl
  rw [e0]
  unfold ir_mark_rows
  have c2 := hM.c2
  refine run_cons ?_
  simp_all! [f0, hA.a0, moF]
  refine ⟨.int M.count, rfl, ?_⟩
  dsimp!
  refine ⟨by omega, ?_⟩
  rw [Int.toNat_natCast]
  refine lc_by mG (fun j acc S' => S' = S ∧ acc = (List.replicate j (mkRow M [] 0)) ∧ j ≤ M.count) ⟨rfl, rfl, Nat.zero_le _⟩ ?_ ?_
  · rintro j x acc S' hx ⟨rfl, rfl, hj⟩
    obtain ⟨rfl, hj2⟩ := rngU_at hx
    refine ⟨trivial, ?_⟩
    dsimp! [wipeU]
    refine ⟨by simp; rw [sizeLine_eq]; omega, ?_, by omega⟩
    rw [List.replicate_succ']; rfl
  rintro acc S' ⟨rfl, rfl, -⟩
  refine ⟨trivial, ?_⟩
  rw [rngU_length]
  dsimp!
  refine cut mG (fun ρ' S2 => S2 = S' ∧ ∃ x1 x2 : Option U, ρ' = [some (.ref m), some u, some (.lst ((List.range M.count).map (mkRow M as))), x1, x2, none, none, none]) ?_ ?_
  · simp only [wC]
    refine wI_any rfl hu ?_
    refine for_inv mG (fun i ρ' S2 => S2 = S' ∧ ∃ x1 x2 : Option U, ρ' = [some (.ref m), some u, some (.lst ((List.range M.count).map (mkRow M (as.take i)))), x1, x2, none, none, none]) ⟨rfl, none, none, ?_⟩ ?_ ?_
    · rw [List.take_zero]
      have : (List.range M.count).map (mkRow M []) = List.replicate M.count (mkRow M [] 0) := by
        refine List.eq_replicate_iff.mpr ⟨by simp, fun b hb => ?_⟩
        obtain ⟨x, _, rfl⟩ := List.mem_map.mp hb
        rfl
      rw [this]
    · rintro i x ρ' S2 hx ⟨rfl, x1, x2, rfl⟩
      obtain ⟨w, hw, rfl⟩ := strs_map hx
      have hi := (List.getElem?_eq_some_iff.mp hw).1
      refine ⟨trivial, ?_⟩
      dsimp!
      refine run_cons ?_
      dsimp! [↓e_omt m1]
      refine ⟨m, _, rfl, f0, IsMo.attrs hA, rfl, m, w, M, rfl, hm, ?_⟩
      dsimp only
      refine run_cons ?_
      dsimp!
      refine lc_by mG (fun j acc S3 => S3 = S2 ∧ acc = ((List.range M.count).map (mkRow M (as.take (i + 1)))).take j) ⟨rfl, rfl⟩ ?_ ?_
      · rintro j x acc S3 hx ⟨rfl, rfl⟩
        obtain ⟨y, hy, rfl⟩ := enum_at hx
        obtain ⟨hj, rfl⟩ := rng_u hy
        refine ⟨trivial, ?_⟩
        dsimp! [wipeU, setsU, mkRow]
        refine in_ints ?_
        dsimp! [List.length_map]
        have := List.length_take_le' i as
        refine ⟨by rw [sizeLine_eq]; omega, by simp; rw [sizeLine_eq]; omega, ?_⟩
        rw [take_rng (mkRow M (as.take (i + 1))) hj]
        congr 2
        unfold mkRow
        rw [take_len hw]; simp
      · rintro acc S3 ⟨rfl, rfl⟩
        refine ⟨trivial, ?_⟩
        dsimp!
        rw [List.take_of_length_le (by simp)]
        exact run_nil ⟨rfl, _, _, rfl⟩
    · rintro ρ' S2 ⟨rfl, x1, x2, rfl⟩
      rw [List.length_map, List.take_length]
      exact ⟨trivial, rfl, _, _, rfl⟩
  rintro ρ' S2 ⟨rfl, x1, x2, rfl⟩
  refine run_cons ?_
  dsimp!
  exact k
/-! sights -/
theorem dfz_rows {S : Sto} {rs : List Addr} {rows : List (List Int)} : (∀ (j : Nat) r, rs[j]? = some r → ∃ l, rows[j]? = some l ∧ S r = some (.lst (l.map .int))) → rows.length = rs.length → ∃ D, Dfzs S (rs.map .ref) (rows.map intsU) D ∧ ∀ p ∈ D, p ∈ rs := by
  induction rs generalizing rows with
  | nil =>
    intro _ h
    cases rows with
    | nil => exact ⟨[], .nil, by simp⟩
    | cons _ _ => simp at h
  | cons r rs ih =>
    intro h hl
    cases rows with
    | nil => simp at hl
    | cons l rows =>
      obtain ⟨D, h1, h2⟩ := ih (rows := rows) (fun j r' hr => h (j + 1) r' hr) (by simpa using hl)
      obtain ⟨l', e, hr⟩ := h 0 r rfl
      cases e
      obtain ⟨D2, b1, rfl⟩ := Dfzs.dats (S := S) (l.map U.int)
      refine ⟨[r] ++ D, .cons (.lst hr b1) h1, fun p hp => ?_⟩
      rcases List.mem_append.mp hp with hp | hp
      · rw [List.mem_singleton.mp hp]; exact List.mem_cons_self
      · exact List.mem_cons_of_mem _ (h2 p hp)
def spSight : FS := ⟨2, fun us S R _ => ∃ m M w, us = [.ref m, .str w] ∧ IsMo S m M ∧ WfMo M ∧ ∀ S', Kp [] S S' → R (rowsU ((List.range M.count).map (succM M w))) S'⟩
theorem secs_len (a : List (Int × Int)) (i x : Nat) : (secs (a.take i) x).length ≤ (secs a x).length := by
  unfold secs
  rw [List.length_map, List.length_map]
  exact ((List.take_sublist i a).filter _).length_le
theorem body_sight (G : GV) (mG : GMono G) (hA : Attrs G) (m0 : HasM G 0 spArrows) : ∀ us S R RX, us.length = pr_sight_rows.length → spSight.sp us S R RX → wCms G (fun x _ S' => RX x S') ir_sight_rows (startU nm_sight_rows us) S { nx := fun _ S' => R .non S', rt := R } := by
  rintro us S R RX - ⟨m, M, w, rfl, hm, hM, k⟩
  obtain ⟨d1, d2, f0, f1, f2⟩ := id hm
  have e0 : startU nm_sight_rows [.ref m, .str w] = [some (.ref m), some (.str w), none, none, none, none] := rfl
  rw [e0]
  unfold ir_sight_rows
  have c2 := hM.c2
  refine run_cons ?_
  simp_all! [f0, hA.a0, moF]
  refine ⟨.int M.count, rfl, ?_⟩
  dsimp!
  refine ⟨by omega, ?_⟩
  rw [Int.toNat_natCast]
  refine new_rows mG c2 fun rs S1 k1 r1 r2 nd => ?_
  have esec : ∀ x, x < M.count → secs (arrL M w M.count) x = succM M w x := fun x hx => by
    have := secs_prF (succM M w) x M.count
    rw [if_pos hx] at this
    exact this
  refine cut mG (fun ρ' S' => ∃ x y : Option U, ρ' = [some (.ref m), some (.str w), some (.lst (rs.map .ref)), x, y, none] ∧ Kp [] S S' ∧ ∀ (x : Nat) p, rs[x]? = some p → S' p = some (.lst ((secs (arrL M w M.count) x).map .int))) ?_ ?_
  · have hm1 := hm.kp0 k1
    obtain ⟨d1, d2, f0, f1, f2⟩ := id hm1
    dsimp! [↓e_omt m0]
    refine ⟨m, _, rfl, f0, IsMo.attrs hA, rfl, m, w, M, rfl, hm1, hM, ?_⟩
    dsimp only
    refine for_inv mG (fun i ρ' S' => ∃ x y : Option U, ρ' = [some (.ref m), some (.str w), some (.lst (rs.map .ref)), x, y, none] ∧ Kp [] S S' ∧ ∀ (x : Nat) p, rs[x]? = some p → S' p = some (.lst ((secs ((arrL M w M.count).take i) x).map .int))) ⟨_, _, rfl, k1, fun x p hp => ?_⟩ ?_ ?_
    · rw [List.take_zero]; exact (r2 p (List.mem_of_getElem? hp)).2
    · rintro i x ρ' S' hx ⟨y, z, rfl, g1, g2⟩
      rw [List.getElem?_map, Option.map_eq_some_iff] at hx
      obtain ⟨p, hp, rfl⟩ := hx
      obtain ⟨x, hx, b1, b2⟩ := prF_mem (f := succM M w) (List.mem_of_getElem? hp)
      refine ⟨trivial, ?_⟩
      dsimp! [setsU]
      refine run_cons ?_
      dsimp!
      obtain ⟨q, hq1, hq2⟩ := at_in (xs := rs) (i := p.1) (by omega) (by omega)
      have hq3 : L2.atI (rs.map U.ref) p.1 = some (.ref q) := by rw [at_nat (by omega), List.getElem?_map, hq2]; rfl
      have hS := g2 _ _ hq2
      dsimp! [hq3, hS]
      have tk : (arrL M w M.count).take (i + 1) = (arrL M w M.count).take i ++ [p] := by rw [List.take_add_one, hp]; rfl
      have sub : (secs ((arrL M w M.count).take i) p.1.toNat).length ≤ 61 := by
        refine Nat.le_trans (secs_len _ _ _) ?_
        rw [esec _ (by omega)]
        exact (hM.row w _).1
      refine ⟨by simp; rw [sizeLine_eq]; omega, ?_⟩
      have fq : S q = none := (r2 q (List.mem_of_getElem? hq2)).1
      refine run_nil ⟨_, _, rfl, g1.put (.inl fq), fun x r hr => ?_⟩
      rw [tk, secs_app]
      by_cases e : x = p.1.toNat
      · subst e
        have er : r = q := by rw [hq2] at hr; cases hr; rfl
        rw [if_pos (by omega), er, Sto.put_same, List.map_append]; rfl
      · rw [if_neg (by omega)]
        have ne : r ≠ q := by
          rintro rfl
          obtain ⟨z1, z2⟩ := List.getElem?_eq_some_iff.mp hr
          obtain ⟨z3, z4⟩ := List.getElem?_eq_some_iff.mp hq2
          exact e ((List.getElem_inj nd).mp (z2.trans z4.symm))
        rw [Sto.put_ne ne]; exact g2 x r hr
    · rintro ρ' S' ⟨y, z, rfl, g1, g2⟩
      rw [List.length_map, List.take_length] at g2
      exact ⟨trivial, _, _, rfl, g1, g2⟩
  rintro ρ' S2 ⟨y, z, rfl, g1, g2⟩
  refine run_cons ?_
  dsimp!
  obtain ⟨D, h1, h2⟩ := dfz_rows (S := S2) (rs := rs) (rows := (List.range M.count).map (succM M w)) (fun j r hr => by
    have hj := (List.getElem?_eq_some_iff.mp hr).1
    have hj2 : j < M.count := by omega
    refine ⟨succM M w j, by rw [List.getElem?_map, List.getElem?_range hj2]; rfl, ?_⟩
    rw [g2 j r hr, esec j hj2]) (by simp [r1])
  exact ⟨_, _, gst_deep (.inl h1), k _ (g1.delS fun p hp => .inl (r2 p (h2 p hp)).1)⟩
end K22
namespace K22
open PySem PySem.Spec PyProof.Rows L2 Mm
def KeysOf (ks : List U) (qs : List NestedKey) : Prop := ks.length = qs.length ∧ ∀ (i : Nat) u q, ks[i]? = some u → qs[i]? = some q → (∃ l, u = .tup l) ∧ nkU u = some q ∧ q.depth ≤ 8
def kvAll (qs : List NestedKey) : List (NestedKey × Int) := qs.foldl kvN []
theorem numbGo_app {κ : Type} [DecidableEq κ] (q : κ) : ∀ (a : List κ) (kvs : List (κ × Int)), numbGo kvs (a ++ [q]) = numbGo kvs a ++ [(getA (kvN (a.foldl kvN kvs) q) q).getD 0]
  | [], kvs => rfl
  | b :: a, kvs => by
    rw [List.cons_append]
    show _ :: numbGo (kvN kvs b) (a ++ [q]) = _ :: numbGo (kvN kvs b) a ++ _
    rw [numbGo_app q a]; rfl
theorem numb_app (a : List NestedKey) (q : NestedKey) : numb (a ++ [q]) = numb a ++ [(getA (kvN (kvAll a) q) q).getD 0] := numbGo_app q a []
theorem kvAll_app (a : List NestedKey) (q : NestedKey) : kvAll (a ++ [q]) = kvN (kvAll a) q := by unfold kvAll; rw [List.foldl_append]; rfl
theorem kvAll_len (a : List NestedKey) : (kvAll a).length ≤ a.length := by
  have : ∀ (a : List NestedKey) (k : List (NestedKey × Int)), (a.foldl kvN k).length ≤ k.length + a.length := by
    intro a
    induction a with
    | nil => intro k; simp
    | cons q a ih =>
      intro k
      have h1 := ih (kvN k q)
      have h2 := len_kvN k q
      simp only [List.foldl_cons, List.length_cons]
      rcases h2 with e | ⟨_, e⟩ <;> omega
  have := this a []
  unfold kvAll
  simpa using this
theorem nin_dnk {S : Sto} {p : Addr} {l : List U} {q : NestedKey} {kvs : List (NestedKey × Int)} {k : Bool → Prop} (h : S p = some (.dnk kvs)) (hq : nkU (.tup l) = some q) (hd : q.depth ≤ 8) (hk : k (!(getA kvs q).isSome)) : copW .notin (.tup l) (.ref p) S k := by
  rw [n_nin]
  simp only [inW, h]
  exact ⟨l, q, rfl, hq, hd, hk⟩
theorem len_dnk {S : Sto} {p : Addr} {kvs : List (NestedKey × Int)} {R : Post} (h : S p = some (.dnk kvs)) (hl : kvs.length ≤ 1000) (k : R (.int kvs.length) S) : bltW .len [.ref p] S R := ⟨kvs.length, by simp only [lenOf, h]; rw [if_pos (by rw [sizeLine_eq]; omega)], k⟩
theorem set_dnk {S : Sto} {p : Addr} {l : List U} {q : NestedKey} {n : Int} {kvs : List (NestedKey × Int)} {K : Sto → Prop} (h : S p = some (.dnk kvs)) (hq : nkU (.tup l) = some q) (hd : q.depth ≤ 8) (hl : kvs.length < 1000) (k : K (S.put p (.dnk (putA kvs q n)))) : setIxW (.ref p) (.tup l) (.int n) S K := by
  simp only [setIxW, h]
  exact ⟨l, q, n, rfl, hq, hd, rfl, by rw [sizeLine_eq]; omega, k⟩
theorem ix_dnk {S : Sto} {p : Addr} {l : List U} {q : NestedKey} {n : Int} {kvs : List (NestedKey × Int)} {R : Post} (h : S p = some (.dnk kvs)) (hq : nkU (.tup l) = some q) (hd : q.depth ≤ 8) (hg : getA kvs q = some n) (k : R (.int n) S) : idxW (.ref p) (.tup l) S R := ⟨kvs, q, n, by simp only [dnkOf, h], hq, hd, hg, k⟩
abbrev loopN : Cm := .for (.one 3) (.seq (.var 0)) (.cons (.ite (.cmp .notin (.var 3) (.var 1)) (.cons (.setIx (.var 1) (.var 3) (.blt .len (.cons (.var 1) .nil))) .nil) .nil) (.cons (.ex (.meth .append (.var 2) (.cons (.idx (.var 1) (.var 3)) .nil))) .nil))
theorem numb_loop {G : GV} (mG : GMono G) {RX : RXn} {y : U} {ks : List U} {qs : List NestedKey} {kn nu : Addr} {S : Sto} {D : Out} (hy : y = .lst ks ∨ ∃ p, y = .ref p ∧ p ≠ kn ∧ p ≠ nu ∧ S p = some (.lst ks)) (hk : KeysOf ks qs) (hl : ks.length ≤ 64) (n1 : S kn = some (.dnk [])) (n2 : S nu = some (.lst [])) (ne : kn ≠ nu)
    (k : ∀ S' x, S' nu = some (.lst ((numb qs).map .int)) → Kp [kn, nu] S S' → D.nx [some y, some (.ref kn), some (.ref nu), x] S') : wC G RX loopN [some y, some (.ref kn), some (.ref nu), none] S D := by
  have main : ∀ gd : Sto → Prop, (∀ S', Kp [kn, nu] S S' → gd S') → forW (.one 3) gd (fun ρ S D => wCms G RX (.cons (.ite (.cmp .notin (.var 3) (.var 1)) (.cons (.setIx (.var 1) (.var 3) (.blt .len (.cons (.var 1) .nil))) .nil) .nil) (.cons (.ex (.meth .append (.var 2) (.cons (.idx (.var 1) (.var 3)) .nil))) .nil)) ρ S D) D ks [some y, some (.ref kn), some (.ref nu), none] S := by
    intro gd hgd
    refine for_inv mG (fun i ρ' S' => ∃ x, ρ' = [some y, some (.ref kn), some (.ref nu), x] ∧ S' kn = some (.dnk (kvAll (qs.take i))) ∧ S' nu = some (.lst ((numb (qs.take i)).map .int)) ∧ Kp [kn, nu] S S') ⟨_, rfl, n1, n2, Kp.refl⟩ ?_ ?_
    · rintro i u ρ' S' hx ⟨x, rfl, g1, g2, g3⟩
      have hi := (List.getElem?_eq_some_iff.mp hx).1
      have hi2 : i < qs.length := by rw [← hk.1]; exact hi
      obtain ⟨⟨l, rfl⟩, hq, hd⟩ := hk.2 i u qs[i] hx (List.getElem?_eq_getElem hi2)
      have tk : qs.take (i + 1) = qs.take i ++ [qs[i]] := by rw [List.take_add_one, List.getElem?_eq_getElem hi2]; rfl
      have lk : (kvAll (qs.take i)).length ≤ 64 := by
        have h1 := kvAll_len (qs.take i)
        have h2 := List.length_take_le i qs
        omega
      have ln : (numb (qs.take i)).length ≤ 64 := by
        rw [numb_len]
        have h2 := List.length_take_le i qs
        omega
      refine ⟨hgd _ g3, ?_⟩
      dsimp!
      have fin : ∀ S2 (D : Out), (∀ ρ' S', (∃ x, ρ' = [some y, some (.ref kn), some (.ref nu), x] ∧ S' kn = some (.dnk (kvAll (qs.take (i + 1)))) ∧ S' nu = some (.lst ((numb (qs.take (i + 1))).map .int)) ∧ Kp [kn, nu] S S') → D.nx ρ' S') → S2 kn = some (.dnk (kvN (kvAll (qs.take i)) qs[i])) → S2 nu = some (.lst ((numb (qs.take i)).map .int)) → Kp [kn, nu] S S2 → wCms G RX (.cons (.ex (.meth .append (.var 2) (.cons (.idx (.var 1) (.var 3)) .nil))) .nil) [some y, some (.ref kn), some (.ref nu), some (.tup l)] S2 D := by
        intro S2 D hD f1 f2 f3
        obtain ⟨v, hv⟩ := Option.isSome_iff_exists.mp (getA_kvN_self (kvAll (qs.take i)) qs[i])
        refine run_cons ?_
        dsimp! [f2]
        refine ix_dnk f1 hq hd hv ?_
        simp only [f2]
        refine ⟨by simp; rw [sizeLine_eq]; omega, ?_⟩
        refine run_nil (hD _ _ ⟨_, rfl, ?_, ?_, f3.put (.inr (by simp))⟩)
        · rw [Sto.put_ne ne, tk, kvAll_app]; exact f1
        · rw [Sto.put_same, tk, numb_app, hv]; simp
      refine run_cons ?_
      dsimp!
      refine nin_dnk g1 hq hd ?_
      cases hg : getA (kvAll (qs.take i)) qs[i] with
      | some v =>
        simp_all! [Option.isSome_some]
        refine run_nil ?_
        refine fin _ _ (fun _ _ h => h) ?_ g2 g3
        unfold kvN; rw [hg]; exact g1
      | none =>
        simp_all! [Option.isSome_none]
        refine run_cons ?_
        dsimp! [g1]
        refine ⟨by rw [sizeLine_eq]; omega, ?_⟩
        refine set_dnk g1 hq hd (by omega) ?_
        refine run_nil ?_
        refine fin _ _ (fun _ _ h => h) ?_ ((Sto.put_ne (Ne.symm ne)).trans g2) (g3.put (.inr (by simp)))
        unfold kvN; rw [hg]; exact Sto.put_same
    · rintro ρ' S' ⟨x, rfl, g1, g2, g3⟩
      rw [hk.1, List.take_length] at g2
      exact ⟨hgd _ g3, k _ _ g2 g3⟩
  rcases hy with rfl | ⟨p, rfl, p1, p2, hp⟩
  · have := main (fun _ => True) fun _ _ => trivial
    dsimp!
    exact this
  · have := main (fun S' => S' p = some (.lst ks)) fun S' h => h.at hp (by simp [p1, p2])
    dsimp! [hp]
    exact ⟨ks, rfl, this⟩
def spNum : FS := ⟨1, fun us S R _ => ∃ ks qs, us = [.lst ks] ∧ KeysOf ks qs ∧ ks.length ≤ 64 ∧ ∀ r S', S r = none → S' r = some (.lst ((numb qs).map .int)) → Kp [] S S' → R (.ref r) S'⟩
theorem body_numbered (G : GV) (mG : GMono G) : ∀ us S R RX, us.length = pr_numbered.length → spNum.sp us S R RX → wCms G (fun x _ S' => RX x S') ir_numbered (startU nm_numbered us) S { nx := fun _ S' => R .non S', rt := R } := by
  rintro us S R RX - ⟨ks, qs, rfl, hk, hl, k⟩
  have e0 : startU nm_numbered [.lst ks] = [some (.lst ks), none, none, none] := rfl
  rw [e0]
  unfold ir_numbered
  refine run_cons ?_
  dsimp!
  intro kn h1
  refine run_cons ?_
  dsimp! [n_al1]
  intro nu h2
  have ne : kn ≠ nu := fun z => by rw [← z, Sto.put_same] at h2; cases h2
  have fnu : S nu = none := by rw [Sto.put_ne (Ne.symm ne)] at h2; exact h2
  refine cut mG (fun ρ' S' => ∃ x, ρ' = [some (.lst ks), some (.ref kn), some (.ref nu), x] ∧ S' nu = some (.lst ((numb qs).map .int)) ∧ Kp [] S S') ?_ ?_
  · refine numb_loop mG (.inl rfl) hk hl ((Sto.put_ne ne).trans Sto.put_same) Sto.put_same ne fun S' x g1 g2 => ⟨x, rfl, g1, fun p o e _ => ?_⟩
    have m1 : p ≠ kn := fun z => by rw [z, h1] at e; cases e
    have m2 : p ≠ nu := fun z => by rw [z, fnu] at e; cases e
    exact g2 p o ((Sto.put_ne m2).trans ((Sto.put_ne m1).trans e)) (by simp [m1, m2])
  rintro ρ' S' ⟨x, rfl, g1, g2⟩
  refine run_cons ?_
  dsimp!
  exact k nu S' fnu g1 g2
def spLNum : FS := ⟨1, fun us S R _ => ∃ y ks qs, us = [y] ∧ (y = .lst ks ∨ ∃ p, y = .ref p ∧ S p = some (.lst ks)) ∧ KeysOf ks qs ∧ ks.length ≤ 64 ∧ ∀ S', Kp [] S S' → R (intsU (numb qs)) S'⟩
theorem body_lnumbered (G : GV) (mG : GMono G) : ∀ us S R RX, us.length = pr_law_numbered.length → spLNum.sp us S R RX → wCms G (fun x _ S' => RX x S') ir_law_numbered (startU nm_law_numbered us) S { nx := fun _ S' => R .non S', rt := R } := by
  rintro us S R RX - ⟨y, ks, qs, rfl, hy, hk, hl, k⟩
  have e0 : startU nm_law_numbered [y] = [some y, none, none, none] := rfl
  rw [e0]
  unfold ir_law_numbered
  refine run_cons ?_
  dsimp!
  intro kn h1
  refine run_cons ?_
  dsimp! [n_al1]
  intro nu h2
  have ne : kn ≠ nu := fun z => by rw [← z, Sto.put_same] at h2; cases h2
  have fnu : S nu = none := by rw [Sto.put_ne (Ne.symm ne)] at h2; exact h2
  refine cut mG (fun ρ' S' => ∃ x, ρ' = [some y, some (.ref kn), some (.ref nu), x] ∧ S' nu = some (.lst ((numb qs).map .int)) ∧ Kp [] S S') ?_ ?_
  · refine numb_loop mG ?_ hk hl ((Sto.put_ne ne).trans Sto.put_same) Sto.put_same ne fun S' x g1 g2 => ⟨x, rfl, g1, fun p o e _ => ?_⟩
    · rcases hy with e | ⟨p, e, hp⟩
      · exact .inl e
      · have m1 : p ≠ kn := fun z => by rw [z, h1] at hp; cases hp
        have m2 : p ≠ nu := fun z => by rw [z, fnu] at hp; cases hp
        exact .inr ⟨p, e, m1, m2, (Sto.put_ne m2).trans ((Sto.put_ne m1).trans hp)⟩
    have m1 : p ≠ kn := fun z => by rw [z, h1] at e; cases e
    have m2 : p ≠ nu := fun z => by rw [z, fnu] at e; cases e
    exact g2 p o ((Sto.put_ne m2).trans ((Sto.put_ne m1).trans e)) (by simp [m1, m2])
  rintro ρ' S' ⟨x, rfl, g1, g2⟩
  refine run_cons ?_
  dsimp! [g1]
  exact k _ (g2.del (.inl fnu))
end K22
namespace K22
open PySem PySem.Spec PyProof.Rows L2 Mm
def keyRow (W : Wd) (e : Nat → Int) (a : Nat → Int) (ws : List (List Nat)) (x : Nat) : U := .tup (.int (a x) :: ws.map fun w => .tup ((look W e x w).map .int))
def keyQ (W : Wd) (e : Nat → Int) (a : Nat → Int) (ws : List (List Nat)) (x : Nat) : NestedKey := .tup (.num (a x) :: ws.map fun w => .tup ((look W e x w).map .num))
theorem nk_ints (l : List Int) : nkUs (l.map U.int) = some (l.map .num) := by
  induction l with
  | nil => rfl
  | cons x l ih => simp only [List.map_cons, nkUs, nkU, ih]
theorem nk_looks {α : Type} (f : α → List Int) (ws : List α) : nkUs (ws.map fun w => U.tup ((f w).map .int)) = some (ws.map fun w => .tup ((f w).map .num)) := by
  induction ws with
  | nil => rfl
  | cons x l ih => simp only [List.map_cons, nkUs, nkU, nk_ints, ih, Option.map_some]
theorem ndep_ints (l : List Int) : NestedKey.depthAll (l.map .num) = 0 := by
  induction l with
  | nil => rfl
  | cons x l ih => simp only [List.map_cons, NestedKey.depthAll, NestedKey.depth, ih]; rfl
theorem dep_looks {α : Type} (f : α → List Int) (ws : List α) : NestedKey.depthAll (ws.map fun w => NestedKey.tup ((f w).map .num)) ≤ 1 := by
  induction ws with
  | nil => simp [NestedKey.depthAll]
  | cons x l ih => simp only [List.map_cons, NestedKey.depthAll, NestedKey.depth, ndep_ints]; omega
theorem num_inj : ∀ {a b : List Int}, a.map NestedKey.num = b.map NestedKey.num → a = b
  | [], [], _ => rfl
  | [], _ :: _, h => by simp at h
  | _ :: _, [], h => by simp at h
  | x :: a, y :: b, h => by
    simp only [List.map_cons, List.cons.injEq, NestedKey.num.injEq] at h
    rw [h.1, num_inj h.2]
theorem looks_inj {α : Type} (f g : α → List Int) (ws : List α) : (ws.map fun w => NestedKey.tup ((f w).map .num)) = (ws.map fun w => NestedKey.tup ((g w).map .num)) ↔ ws.map f = ws.map g := by
  rw [List.map_inj_left, List.map_inj_left]
  constructor
  · intro h w hw
    have := h w hw
    injection this with this
    exact num_inj this
  · intro h w hw
    rw [h w hw]
theorem key_iff {W : Wd} {e a : Nat → Int} {ws : List (List Nat)} {x y : Nat} : keyQ W e a ws x = keyQ W e a ws y ↔ (a x, ws.map (look W e x)) = (a y, ws.map (look W e y)) := by
  unfold keyQ
  rw [NestedKey.tup.injEq, List.cons.injEq, NestedKey.num.injEq, Prod.mk.injEq, looks_inj]
theorem keys_of (W : Wd) (e a : Nat → Int) (ws : List (List Nat)) (n : Nat) : KeysOf ((List.range n).map (keyRow W e a ws)) ((List.range n).map (keyQ W e a ws)) := by
  refine ⟨by simp, fun i u q hu hq => ?_⟩
  obtain ⟨_, rfl⟩ := rng_at hu
  obtain ⟨_, rfl⟩ := rng_at hq
  refine ⟨⟨_, rfl⟩, ?_, ?_⟩
  · simp only [keyRow, keyQ, nkU, nkUs, nk_looks, Option.map_some]
  · have := dep_looks (look W e i) ws
    simp only [keyQ, NestedKey.depth, NestedKey.depthAll]; omega
theorem numb_keys (W : Wd) (e a : Nat → Int) (ws : List (List Nat)) : numb ((List.range W.n).map (keyQ W e a ws)) = rowL W.n (numF W.n fun x => (a x, ws.map (look W e x))) := by
  unfold rowL
  rw [← numF_list]
  exact numb_map fun x _ y _ => key_iff
/-- the marks' keys -/
def mkQ (W : Wd) (as : List (List Nat)) (x : Nat) : NestedKey := .tup (as.map fun a => .num (if decide ((x : Int) ∈ W.mrk a) = true then 1 else 0))
theorem nk_bools {α : Type} (f : α → Bool) (ws : List α) : nkUs (ws.map fun w => U.bl (f w)) = some (ws.map fun w => .num (if f w = true then 1 else 0)) := by
  induction ws with
  | nil => rfl
  | cons x l ih => simp only [List.map_cons, nkUs, nkU, ih]
theorem dep_bools {α : Type} (f : α → Int) (ws : List α) : NestedKey.depthAll (ws.map fun w => NestedKey.num (f w)) = 0 := by
  induction ws with
  | nil => rfl
  | cons x l ih => simp only [List.map_cons, NestedKey.depthAll, NestedKey.depth, ih]; rfl
theorem bools_inj {α : Type} (f g : α → Bool) (ws : List α) : (ws.map fun w => NestedKey.num (if f w = true then 1 else 0)) = (ws.map fun w => NestedKey.num (if g w = true then 1 else 0)) ↔ ws.map f = ws.map g := by
  rw [List.map_inj_left, List.map_inj_left]
  constructor
  · intro h w hw
    have := h w hw
    injection this with this
    cases e1 : f w <;> cases e2 : g w <;> simp [e1, e2] at this ⊢
  · intro h w hw
    rw [h w hw]
theorem mks_of (W : Wd) (as : List (List Nat)) (n : Nat) : KeysOf ((List.range n).map fun (x : Nat) => U.tup (as.map fun a => .bl (decide ((x : Int) ∈ W.mrk a)))) ((List.range n).map (mkQ W as)) := by
  refine ⟨by simp, fun i u q hu hq => ?_⟩
  obtain ⟨_, rfl⟩ := rng_at hu
  obtain ⟨_, rfl⟩ := rng_at hq
  refine ⟨⟨_, rfl⟩, ?_, ?_⟩
  · simp only [mkQ, nkU, nk_bools, Option.map_some]
  · simp only [mkQ, NestedKey.depth, dep_bools]; omega
theorem numb_mks (W : Wd) (as : List (List Nat)) : numb ((List.range W.n).map (mkQ W as)) = rowL W.n (st0 W as) := by
  unfold rowL st0
  rw [← numF_list]
  exact numb_map fun x _ y _ => by
    unfold mkQ
    rw [NestedKey.tup.injEq, bools_inj]
theorem row_at {n : Nat} {e : Nat → Int} {y : Int} (h0 : 0 ≤ y) (h : y < n) : L2.atI ((rowL n e).map U.int) y = some (.int (e y.toNat)) := by
  rw [at_nat h0]
  unfold rowL
  rw [List.getElem?_map, List.getElem?_map, List.getElem?_range (by omega)]; rfl
def spNext : FS := ⟨3, fun us S R _ => ∃ m M u t e, ∃ ws : List (List Nat), us = [.ref m, u, .ref t] ∧ IsNs u ws ∧ ws.length ≤ 4 ∧ IsMo S m M ∧ WfMo M ∧ S t = some (.lst ((rowL M.count e).map .int)) ∧ (∀ x, x < M.count → 0 ≤ e x ∧ e x < M.count) ∧
  ∀ r S', S r = none → S' r = some (.lst ((rowL M.count (nxt (wdM M) ws e)).map .int)) → Kp [] S S' → R (.ref r) S'⟩
theorem body_next (G : GV) (mG : GMono G) (h4 : G.fns[4]? = some spSight) (h5 : G.fns[5]? = some spNum) : ∀ us S R RX, us.length = pr_next_numbers.length → spNext.sp us S R RX → wCms G (fun x _ S' => RX x S') ir_next_numbers (startU nm_next_numbers us) S { nx := fun _ S' => R .non S', rt := R } := by
  rintro us S R RX - ⟨m, M, u, t, e, ws, rfl, hu, lw, hm, hM, ht, he, k⟩
  have e0 : startU nm_next_numbers [.ref m, u, .ref t] = [some (.ref m), some u, some (.ref t), none, none, none, none, none, none, none] := rfl
  rw [e0]
  unfold ir_next_numbers
  have c2 := hM.c2
  refine run_cons ?_
  dsimp! [ht]
  refine ⟨_, rfl, ?_⟩
  refine lc_by mG (fun j acc S' => S' = S ∧ acc = ((List.range M.count).map (keyRow (wdM M) e e [])).take j) ⟨rfl, rfl⟩ ?_ ?_
  · rintro j x acc S' hx ⟨rfl, rfl⟩
    obtain ⟨z, hz, rfl⟩ := ints_map hx
    obtain ⟨hj, rfl⟩ := rng_at hz
    refine ⟨ht, ?_⟩
    dsimp! [wipeU]
    refine ⟨by simp; rw [sizeLine_eq]; omega, ?_⟩
    rw [take_rng _ hj]; rfl
  rintro acc S' ⟨rfl, rfl⟩
  refine ⟨ht, ?_⟩
  dsimp!
  refine cut mG (fun ρ' S2 => ∃ x1 x2 : Option U, ρ' = [some (.ref m), some u, some (.ref t), some (.lst ((List.range M.count).map (keyRow (wdM M) e e ws))), x1, x2, none, none, none, none] ∧ Kp [] S' S2) ?_ ?_
  · simp only [wC]
    refine wI_any rfl hu ?_
    refine for_inv mG (fun i ρ' S2 => ∃ x1 x2 : Option U, ρ' = [some (.ref m), some u, some (.ref t), some (.lst ((List.range M.count).map (keyRow (wdM M) e e (ws.take i)))), x1, x2, none, none, none, none] ∧ Kp [] S' S2) ⟨none, none, ?_, Kp.refl⟩ ?_ ?_
    · rw [List.take_zero, List.take_of_length_le (by simp [rowL])]
    · rintro i x ρ' S2 hx ⟨x1, x2, rfl, kp⟩
      obtain ⟨w, hw, rfl⟩ := strs_map hx
      have hi := (List.getElem?_eq_some_iff.mp hw).1
      refine ⟨trivial, ?_⟩
      dsimp!
      refine run_cons ?_
      dsimp! [h4]
      refine ⟨rfl, m, M, w, rfl, hm.kp0 kp, hM, fun S3 k3 => ?_⟩
      have ht3 := k3.at (kp.at ht (by simp)) (by simp)
      refine run_cons ?_
      dsimp!
      refine lc_by mG (fun j acc S4 => S4 = S3 ∧ acc = ((List.range M.count).map (keyRow (wdM M) e e (ws.take (i + 1)))).take j) ⟨rfl, rfl⟩ ?_ ?_
      · rintro j x acc S4 hx ⟨rfl, rfl⟩
        obtain ⟨y, hy, rfl⟩ := enum_at hx
        obtain ⟨hj, rfl⟩ := rng_u hy
        refine ⟨trivial, ?_⟩
        have ha : L2.atI (((List.range M.count).map (succM M w)).map intsU) (j : Int) = some (intsU (succM M w j)) := by
          rw [at_nat (by omega), Int.toNat_natCast, List.getElem?_map, List.getElem?_map, List.getElem?_range hj]; rfl
        obtain ⟨rl, rb⟩ := hM.row w j
        dsimp! [wipeU, setsU, keyRow, ha]
        refine sc_by mG (fun j' acc' S5 => S5 = S4 ∧ acc' = ((succM M w j).take j').map fun y => e y.toNat) ⟨rfl, rfl⟩ ?_ ?_
        · rintro j' x acc' S5 hx ⟨rfl, rfl⟩
          obtain ⟨z, hz, rfl⟩ := ints_map hx
          have zb := rb z (List.mem_of_getElem? hz)
          have hj' := (List.getElem?_eq_some_iff.mp hz).1
          refine ⟨trivial, ?_⟩
          dsimp! [wipeU, ht3, row_at zb.1 zb.2]
          refine ⟨_, rfl, by simp; omega, ?_⟩
          rw [List.take_add_one, hz]; simp
        · rintro acc' S5 ⟨rfl, rfl⟩
          rw [List.length_map (as := succM M w j), List.take_length]
          refine ⟨trivial, by rw [List.length_map]; omega, fun ns n1 n2 => ?_⟩
          have en : ns = look (wdM M) e j w := srt_eq (n := M.count) ⟨n1, n2⟩ fun v hv => by
            obtain ⟨z, hz, rfl⟩ := List.mem_map.mp hv
            have := rb z hz
            exact he _ (by omega)
          subst en
          dsimp! [List.length_map]
          have := List.length_take_le' i ws
          refine ⟨by rw [sizeLine_eq]; omega, by simp; rw [sizeLine_eq]; omega, ?_⟩
          rw [take_rng (keyRow (wdM M) e e (ws.take (i + 1))) hj]
          congr 2
          unfold keyRow
          rw [take_len hw]; simp
      · rintro acc S4 ⟨rfl, rfl⟩
        refine ⟨trivial, ?_⟩
        dsimp!
        rw [List.take_of_length_le (by simp)]
        exact run_nil ⟨_, _, rfl, kp.trans k3⟩
    · rintro ρ' S2 ⟨x1, x2, rfl, kp⟩
      rw [List.length_map, List.take_length]
      exact ⟨trivial, _, _, rfl, kp⟩
  rintro ρ' S2 ⟨x1, x2, rfl, kp⟩
  refine run_cons ?_
  dsimp! [h5]
  refine ⟨rfl, _, _, rfl, keys_of (wdM M) e e ws M.count, by simp; omega, fun r S3 a1 a2 a3 => ?_⟩
  have := numb_keys (wdM M) e e ws
  have a2' : S3 r = some (.lst ((rowL M.count (nxt (wdM M) ws e)).map .int)) := by
    rw [a2]
    show some (Ob.lst ((numb ((List.range (wdM M).n).map (keyQ (wdM M) e e ws))).map U.int)) = _
    rw [this]; rfl
  exact k r S3 (kp.fresh (by simp) a1) a2' (kp.trans a3)
end K22
namespace K22
open PySem PySem.Spec PyProof.Rows L2 Mm
theorem at_m1 {α : Type} {xs : List α} {k : Nat} (h : xs.length = k + 1) : L2.atI xs (-1) = xs[k]? := by
  have e : ixN (k + 1) (-1) = some k := by
    unfold ixN
    rw [if_neg (by omega)]
    first
      | (rw [if_pos (by omega)]; congr 1; omega)
      | (simp; omega)
  unfold L2.atI
  rw [h, e]; rfl
theorem ueqs_ints : ∀ a b : List Int, ueqs (a.map U.int) (b.map U.int) = decide (a = b)
  | [], [] => rfl
  | [], _ :: _ => rfl
  | _ :: _, [] => rfl
  | x :: a, y :: b => by
    simp only [List.map_cons, ueqs, ueq, ueqs_ints a b]
    by_cases e : x = y
    · subst e; simp
    · simp [e]
theorem ueq_ints (a b : List Int) : ueq (intsU a) (intsU b) = decide (a = b) := ueqs_ints a b
theorem eq_rows {S : Sto} {p q : Addr} {a b : List Int} {k : Bool → Prop} (hp : S p = some (.lst (a.map .int))) (hq : S q = some (.lst (b.map .int))) (hk : k (decide (a = b))) : copW .eq (.ref p) (.ref q) S k := by
  rw [n_eqW]
  exact eq_sn rfl (Sn.ref hp (Sns.data (ints_data a))) (Sn.ref hq (Sns.data (ints_data b))) (ints_eqable a) (ints_eqable b) (by rw [ueq_ints]; exact hk)
/-- what stages returns -/
structure Told (S S' : Sto) (t : Addr) (L : List (List Int)) (rs : List Addr) : Prop where
  t0 : S t = none
  r0 : ∀ r ∈ rs, S r = none
  nd : (t :: rs).Nodup
  t1 : S' t = some (.lst (rs.map .ref))
  ln : rs.length = L.length
  r1 : ∀ (j : Nat) r l, rs[j]? = some r → L[j]? = some l → S' r = some (.lst (l.map .int))
  kp : Kp [] S S'
theorem rowsL_at {W : Wd} {ws as : List (List Nat)} {k j : Nat} {l : List Int} (h : (rowsL W ws as k)[j]? = some l) : j < k + 1 ∧ l = rowL W.n (stg W ws as j) := rng_at h
theorem rowsL_len {W : Wd} {ws as : List (List Nat)} {k : Nat} : (rowsL W ws as k).length = k + 1 := by simp [rowsL]
theorem rowsL_get {W : Wd} {ws as : List (List Nat)} {k j : Nat} (h : j < k + 1) : (rowsL W ws as k)[j]? = some (rowL W.n (stg W ws as j)) := by
  unfold rowsL
  rw [List.getElem?_map, List.getElem?_range h]; rfl
theorem rowsL_succ {W : Wd} {ws as : List (List Nat)} {k : Nat} : rowsL W ws as (k + 1) = rowsL W ws as k ++ [rowL W.n (stg W ws as (k + 1))] := by
  unfold rowsL
  rw [List.range_succ, List.map_append]; rfl
def spStages : FS := ⟨3, fun us S R _ => ∃ m M u v, ∃ ws as : List (List Nat), us = [.ref m, u, v] ∧ IsNs u ws ∧ ws.length ≤ 4 ∧ IsNs v as ∧ as.length ≤ 4 ∧ IsMo S m M ∧ WfMo M ∧
  ∀ k t rs S', Last (wdM M) ws as k → Told S S' t (rowsL (wdM M) ws as k) rs → R (.ref t) S'⟩
theorem body_stages (G : GV) (mG : GMono G) (h3 : G.fns[3]? = some spMarks) (h5 : G.fns[5]? = some spNum) (h6 : G.fns[6]? = some spNext) : ∀ us S R RX, us.length = pr_stages.length → spStages.sp us S R RX → wCms G (fun x _ S' => RX x S') ir_stages (startU nm_stages us) S { nx := fun _ S' => R .non S', rt := R } := by
  rintro us S R RX - ⟨m, M, u, v, ws, as, rfl, hu, lw, hv, la, hm, hM, k⟩
  have e0 : startU nm_stages [.ref m, u, v] = [some (.ref m), some u, some v, none, none] := rfl
  rw [e0]
  unfold ir_stages
  have c1 := hM.c1
  have c2 := hM.c2
  refine run_cons ?_
  dsimp! [h3, h5]
  refine ⟨rfl, m, M, v, as, rfl, hv, la, hm, hM, rfl, _, _, rfl, mks_of (wdM M) as M.count, by simp; omega, fun r S1 a1 a2 a3 => ?_⟩
  have a2' : S1 r = some (.lst ((rowL M.count (stg (wdM M) ws as 0)).map .int)) := by
    rw [a2]
    show some (Ob.lst ((numb ((List.range (wdM M).n).map (mkQ (wdM M) as))).map U.int)) = _
    rw [numb_mks]; rfl
  dsimp! [n_al1]
  intro t ht
  have ntr : r ≠ t := fun z => by rw [← z, a2] at ht; cases ht
  have ft : S t = none := a3.fresh (by simp) ht
  refine run_cons ?_
  rw [wC]
  refine ⟨fun n ρ' S' => ∃ k rs x, n = M.count - k ∧ ρ' = [some (.ref m), some u, some v, some (.ref t), x] ∧ (∀ j, j < k → stg (wdM M) ws as (j + 1) ≠ stg (wdM M) ws as j) ∧ Told S S' t (rowsL (wdM M) ws as k) rs, ⟨M.count, 0, [r], none, rfl, rfl, fun j hj => by omega, ?_⟩, ?_⟩
  · refine ⟨ft, by simpa using a1, by simpa using Ne.symm ntr, Sto.put_same, rfl, fun j r' l hr hl => ?_, a3.put (.inl ft)⟩
    obtain ⟨hj, rfl⟩ := rowsL_at hl
    have : j = 0 := by omega
    subst this
    cases hr
    rw [Sto.put_ne ntr]; exact a2'
  · rintro n ρ' S' ⟨j, rs, x, rfl, rfl, hj, T⟩
    have hlow : j < M.count := stg_low (W := wdM M) c1 hj
    have len := T.ln
    rw [rowsL_len] at len
    have hjr : j < rs.length := by omega
    have hr := List.getElem?_eq_getElem hjr
    have hat : L2.atI (rs.map U.ref) (-1) = some (.ref rs[j]) := by
      rw [at_m1 (k := j) (by simpa using len), List.getElem?_map, hr]; rfl
    have hrow := T.r1 j _ _ hr (rowsL_get (by omega))
    dsimp!
    refine run_cons ?_
    dsimp! [h6, T.t1, hat]
    refine ⟨rfl, m, M, u, rs[j], stg (wdM M) ws as j, ws, rfl, hu, lw, hm.kp0 T.kp, hM, hrow, fun x hx => stg_b (W := wdM M) hx, fun q S2 b1 b2 b3 => ?_⟩
    have T1 := b3.at T.t1 (by simp)
    have hrow2 := b3.at hrow (by simp)
    refine run_cons ?_
    dsimp! [T1, hat]
    refine eq_rows b2 hrow2 ?_
    refine ite2 (fun e => ?_) (fun e => ?_)
    · have e := of_decide_eq_true e
      refine run_cons ?_
      dsimp!
      have e2 : stg (wdM M) ws as (j + 1) = stg (wdM M) ws as j := stg_row.mp e
      exact k j t rs S2 ⟨hj, e2⟩ ⟨T.t0, T.r0, T.nd, T1, T.ln, fun i r l hr hl => b3.at (T.r1 i r l hr hl) (by simp), T.kp.trans b3⟩
    · have e := of_decide_eq_false (Bool.eq_false_iff.mpr e)
      refine run_nil (run_cons ?_)
      dsimp! [T1]
      refine ⟨by simp; rw [sizeLine_eq]; omega, ?_⟩
      have hj2 : ∀ i, i < j + 1 → stg (wdM M) ws as (i + 1) ≠ stg (wdM M) ws as i := by
        intro i hi
        by_cases z : i = j
        · subst z
          exact fun q => e (stg_row.mpr q)
        · exact hj i (by omega)
      have hlow2 : j + 1 < M.count := stg_low (W := wdM M) c1 hj2
      have nq : ∀ p ∈ t :: rs, p ≠ q := by
        intro p hp z
        subst z
        rcases List.mem_cons.mp hp with rfl | hp
        · rw [T.t1] at b1; cases b1
        · obtain ⟨i, hi⟩ := List.mem_iff_getElem?.mp hp
          have hi2 := (List.getElem?_eq_some_iff.mp hi).1
          rw [T.r1 i _ _ hi (rowsL_get (by omega))] at b1; cases b1
      have ntq : t ≠ q := nq t (by simp)
      have fq : S q = none := T.kp.fresh (by simp) b1
      refine run_nil ⟨M.count - (j + 1), by omega, j + 1, rs ++ [q], _, rfl, rfl, hj2, T.t0, ?_, ?_, ?_, ?_, ?_, (T.kp.trans b3).put (.inl T.t0)⟩
      · intro r hr
        rcases List.mem_append.mp hr with hr | hr
        · exact T.r0 r hr
        · rw [List.mem_singleton.mp hr]; exact fq
      · rw [← List.cons_append]
        refine List.nodup_append.mpr ⟨T.nd, by simp, fun a ha b hb => ?_⟩
        rw [List.mem_singleton.mp hb]
        exact nq a ha
      · rw [Sto.put_same]; simp
      · rw [rowsL_len]; simp [len]
      · intro i r l hr hl
        obtain ⟨hi, rfl⟩ := rowsL_at hl
        have nt : r ≠ t := by
          rintro rfl
          have := List.mem_of_getElem? hr
          rcases List.mem_append.mp this with h | h
          · exact (List.nodup_cons.mp T.nd).1 h
          · exact ntq (List.mem_singleton.mp h)
        rw [Sto.put_ne nt]
        by_cases z : i < rs.length
        · rw [List.getElem?_append_left z] at hr
          exact b3.at (T.r1 i r _ hr (rowsL_get (by omega))) (by simp)
        · have ei : i = j + 1 := by omega
          subst ei
          rw [List.getElem?_append_right (by omega), len, Nat.sub_self] at hr
          cases hr
          exact b2
end K22
namespace K22
open PySem PySem.Spec PyProof.Rows L2 Mm
def wdD (d : Dr) : Wd := ⟨d.count, succD d, mrkD d⟩
theorem wdD_ok {k : Nat} {d : Dr} (h : OkDr k d) : (wdD d).Ok := fun w x => (h.row w x).2
theorem same_of {d : Dr} {M : Mo} (h : MdOf d M) : Same (wdD d) (wdM M) := ⟨h.n, fun w x hx => h.s w x hx, fun a x hx => h.m a x⟩
theorem zip_lk {l : List (List Nat × List (List Int))} {w : List Nat} : getA ((l.map fun p => key p.1).zip (l.map fun p => rowsU p.2)) (key w) = (getA l w).map rowsU := by
  rw [List.zip_map', getA_map]
theorem zip_sp {l : List (List Nat × List Int)} {w : List Nat} : getA ((l.map fun p => key p.1).zip (l.map fun p => intsU p.2)) (key w) = (getA l w).map intsU := by
  rw [List.zip_map', getA_map]
theorem nin_lk {S : Sto} {w : List Nat} {k : Bool → Prop} {l : List (List Nat × List (List Int))} (hk : k (!(getA l w).isSome)) : copW .notin (.str w) (lkU l) S k := by
  rw [n_nin]
  refine ⟨key w, rfl, ?_⟩
  rw [zip_lk, Option.isSome_map]; exact hk
theorem lk_row {k : Nat} {d : Dr} (h : OkDr k d) {w : List Nat} {rows : List (List Int)} (hg : getA d.lk w = some rows) {x : Nat} (hx : x < d.count) : L2.atI (rows.map intsU) (x : Int) = some (intsU (succD d w x)) := by
  have hrow := (h.lk _ (getA_mem hg)).2
  have hx2 : x < rows.length := by rw [hrow.1]; exact hx
  have hs : succD d w x = rows[x] := by
    unfold succD; rw [hg, Option.getD_some, List.getD_eq_getElem?_getD, List.getElem?_eq_getElem hx2]; rfl
  rw [at_nat (by omega), Int.toNat_natCast, List.getElem?_map, List.getElem?_eq_getElem hx2, hs]; rfl
def spLooks : FS := ⟨4, fun us S R _ => ∃ (d : Dr) (w : List Nat) (x : Nat) (e : Nat → Int), us = [lkU d.lk, .str w, .int (x : Nat), intsU (rowL d.count e)] ∧ OkDr 61 d ∧ x < d.count ∧ (∀ x, x < d.count → 0 ≤ e x ∧ e x < d.count) ∧ R (.tup ((look (wdD d) e x w).map .int)) S⟩
theorem body_looks (G : GV) (mG : GMono G) : ∀ us S R RX, us.length = pr_law_looks.length → spLooks.sp us S R RX → wCms G (fun x _ S' => RX x S') ir_law_looks (startU nm_law_looks us) S { nx := fun _ S' => R .non S', rt := R } := by
  rintro us S R RX - ⟨d, w, x, e, rfl, hd, hx, he, k⟩
  have e0 : startU nm_law_looks [lkU d.lk, .str w, .int (x : Nat), intsU (rowL d.count e)] = [some (lkU d.lk), some (.str w), some (.int x), some (intsU (rowL d.count e)), none] := rfl
  rw [e0]
  unfold ir_law_looks
  refine run_cons ?_
  dsimp!
  refine nin_lk ?_
  obtain ⟨rl, rb⟩ := hd.row w x
  cases hg : getA d.lk w with
  | none =>
    simp_all! [Option.isSome_none]
    refine run_cons ?_
    dsimp!
    have : look (wdD d) e x w = [] := by
      have hs : succD d w x = [] := by unfold succD; rw [hg]; simp
      show setOf d.count ((succD d w x).map fun y => e y.toNat) = []
      rw [hs]; exact setOf_nil _
    rw [this] at k
    exact k
  | some rows =>
    simp_all! [Option.isSome_some]
    refine run_nil (run_cons ?_)
    dsimp!
    refine ix_lk hg ?_
    dsimp! [lk_row hd hg hx]
    refine lc_by mG (fun j acc S' => S' = S ∧ acc = (((succD d w x).take j).map fun y => e y.toNat).map .int) ⟨rfl, rfl⟩ ?_ ?_
    · rintro j u acc S' hu ⟨rfl, rfl⟩
      obtain ⟨z, hz, rfl⟩ := ints_map hu
      have hj := (List.getElem?_eq_some_iff.mp hz).1
      have zb := rb z (List.mem_of_getElem? hz)
      refine ⟨trivial, ?_⟩
      dsimp! [wipeU, row_at zb.1 zb.2]
      refine ⟨by simp; rw [sizeLine_eq]; omega, ?_⟩
      rw [List.take_add_one, hz]; simp
    · rintro acc S' ⟨rfl, rfl⟩
      rw [List.length_map (as := succD d w x), List.take_length]
      refine ⟨trivial, ?_⟩
      rw [n_al0]
      refine ⟨_, _, rfl, intsOf_map _, by rw [List.length_map]; omega, fun ns n1 n2 => ?_⟩
      have en : ns = look (wdD d) e x w := srt_eq (n := d.count) ⟨n1, n2⟩ fun v hv => by
        obtain ⟨z, hz, rfl⟩ := List.mem_map.mp hv
        have := rb z hz
        exact he _ (by omega)
      subst en
      dsimp!
      exact k
/-! the due stages -/
def keyRow2 (W : Wd) (e : Nat → Int) (a : Nat → Int) (ws : List (List Nat)) (x : Nat) : U := .tup [.int (a x), .tup (ws.map fun w => .tup ((look W e x w).map .int))]
def keyQ2 (W : Wd) (e : Nat → Int) (a : Nat → Int) (ws : List (List Nat)) (x : Nat) : NestedKey := .tup [.num (a x), .tup (ws.map fun w => .tup ((look W e x w).map .num))]
theorem keys_of2 (W : Wd) (e a : Nat → Int) (ws : List (List Nat)) (n : Nat) : KeysOf ((List.range n).map (keyRow2 W e a ws)) ((List.range n).map (keyQ2 W e a ws)) := by
  refine ⟨by simp, fun i u q hu hq => ?_⟩
  obtain ⟨_, rfl⟩ := rng_at hu
  obtain ⟨_, rfl⟩ := rng_at hq
  refine ⟨⟨_, rfl⟩, ?_, ?_⟩
  · simp only [keyRow2, keyQ2, nkU, nkUs, nk_looks, Option.map_some]
  · have := dep_looks (look W e i) ws
    simp only [keyQ2, NestedKey.depth, NestedKey.depthAll]; omega
theorem key_iff2 {W : Wd} {e a : Nat → Int} {ws : List (List Nat)} {x y : Nat} : keyQ2 W e a ws x = keyQ2 W e a ws y ↔ (a x, ws.map (look W e x)) = (a y, ws.map (look W e y)) := by
  unfold keyQ2
  rw [NestedKey.tup.injEq, List.cons.injEq, NestedKey.num.injEq, Prod.mk.injEq, List.cons.injEq, NestedKey.tup.injEq, looks_inj]
  simp
theorem due_step {W : Wd} (ok : W.Ok) (ws as : List (List Nat)) (j : Nat) : numb ((List.range W.n).map (keyQ2 W (stg W ws as j) (st0 W as) ws)) = rowL W.n (stg W ws as (j + 1)) := by
  have h := stg_due (ws := ws) (as := as) ok (j + 1)
  unfold dstg at h
  rw [stg_due ok j] at h
  rw [← h]
  unfold rowL
  rw [← numF_list]
  exact numb_map fun x _ y _ => key_iff2
def spDue : FS := ⟨3, fun us S R _ => ∃ (d : Dr) (ws as : List (List Nat)), us = [drU d, .lst (ws.map .str), .lst (as.map .str)] ∧ OkDr 61 d ∧ ws.length ≤ 4 ∧ as.length ≤ 4 ∧ ∀ k S', Last (wdD d) ws as k → Kp [] S S' → R (rowsU (rowsL (wdD d) ws as k)) S'⟩
theorem ix_ref {S : Sto} {R : Post} {p : Addr} {xs : List U} {i : Int} {u : U} (h : S p = some (.lst xs)) (hu : L2.atI xs i = some u) (k : R u S) : idxW (.ref p) (.int i) S R := by
  rw [n_ixr]
  simp only [lstAt, h]
  exact ⟨u, hu, k⟩
theorem body_due (G : GV) (mG : GMono G) (h18 : G.fns[18]? = some spLNum) (h19 : G.fns[19]? = some spLooks) : ∀ us S R RX, us.length = pr_law_due.length → spDue.sp us S R RX → wCms G (fun x _ S' => RX x S') ir_law_due (startU nm_law_due us) S { nx := fun _ S' => R .non S', rt := R } := by
  rintro us S R RX - ⟨d, ws, as, rfl, hd, lw, la, k⟩
  have e0 : startU nm_law_due [drU d, .lst (ws.map .str), .lst (as.map .str)] = [some (drU d), some (.lst (ws.map .str)), some (.lst (as.map .str)), none, none, none, none, none, none, none, none, none] := rfl
  rw [e0]
  unfold ir_law_due
  have c1 := hd.c1
  have c2 := hd.c2
  have ok := wdD_ok hd
  refine run_cons ?_
  dsimp! [drU]
  refine run_cons ?_
  dsimp! [n_al1]
  intro q hq
  refine cut mG (fun ρ' S' => ∃ x5 : Option U, ρ' = [some (drU d), some (.lst (ws.map .str)), some (.lst (as.map .str)), some (.int d.count), some (.ref q), x5, none, none, none, none, none, none] ∧ S' q = some (.lst ((List.range d.count).map fun (x : Nat) => U.tup (as.map fun a => .bl (decide ((x : Int) ∈ mrkD d a))))) ∧ Kp [] S S') ?_ ?_
  · dsimp!
    refine ⟨by omega, ?_⟩
    rw [Int.toNat_natCast]
    refine for_inv mG (fun i ρ' S' => ∃ x5 : Option U, ρ' = [some (drU d), some (.lst (ws.map .str)), some (.lst (as.map .str)), some (.int d.count), some (.ref q), x5, none, none, none, none, none, none] ∧ S' q = some (.lst (((List.range d.count).map fun (x : Nat) => U.tup (as.map fun a => .bl (decide ((x : Int) ∈ mrkD d a)))).take i)) ∧ Kp [] S S') ⟨_, rfl, Sto.put_same, Kp.refl.put (.inl hq)⟩ ?_ ?_
    · rintro i u ρ' S' hx ⟨x5, rfl, g1, g2⟩
      obtain ⟨rfl, hi⟩ := rngU_at hx
      refine ⟨trivial, ?_⟩
      dsimp!
      refine run_cons ?_
      dsimp! [g1]
      refine lc_by mG (fun j acc S2 => S2 = S' ∧ acc = (as.take j).map fun a => .bl (decide ((i : Int) ∈ mrkD d a))) ⟨rfl, rfl⟩ ?_ ?_
      · rintro j u acc S2 hu ⟨rfl, rfl⟩
        obtain ⟨a, ha, rfl⟩ := strs_map hu
        have hj := (List.getElem?_eq_some_iff.mp ha).1
        refine ⟨trivial, ?_⟩
        dsimp! [wipeU, drU]
        refine ⟨⟨_, rfl⟩, _, key a, rfl, rfl, ?_⟩
        have ev1 : (getA ((d.sp.map fun p => key p.1).zip (d.sp.map fun p => intsU p.2)) (key a)).getD (.lst []) = intsU (mrkD d a) := by
          rw [zip_sp]
          unfold mrkD
          cases getA d.sp a <;> rfl
        rw [ev1]
        refine in_ints ?_
        refine ⟨by simp; rw [sizeLine_eq]; omega, ?_⟩
        rw [List.take_add_one, ha, Int.zero_add]; simp
      · rintro acc S2 ⟨rfl, rfl⟩
        refine ⟨trivial, ?_⟩
        rw [List.length_map, List.take_length]
        dsimp! [g1]
        refine ⟨by simp; rw [sizeLine_eq]; omega, ?_⟩
        refine run_nil ⟨_, rfl, ?_, g2.put (.inl hq)⟩
        rw [Sto.put_same, take_rng _ hi]
    · rintro ρ' S' ⟨x5, rfl, g1, g2⟩
      rw [rngU_length, List.take_of_length_le (by simp)] at g1
      exact ⟨trivial, _, rfl, g1, g2⟩
  rintro ρ' S1 ⟨x5, rfl, g1, g2⟩
  refine run_cons ?_
  dsimp! [h18, g1]
  refine ⟨rfl, _, _, _, rfl, .inl rfl, mks_of (wdD d) as d.count, by simp; omega, fun S2 k2 => ?_⟩
  have en : numb ((List.range d.count).map (mkQ (wdD d) as)) = rowL d.count (stg (wdD d) ws as 0) := numb_mks (wdD d) as
  rw [en]
  dsimp! [n_al1]
  intro t ht
  have kk : Kp [] S S2 := (g2.del (.inl hq)).trans k2
  have ft : S t = none := kk.fresh (by simp) ht
  refine cut mG (fun ρ' S' => ∃ j x4 x5 x7 x8 x9, ρ' = [some (drU d), some (.lst (ws.map .str)), some (.lst (as.map .str)), some (.int d.count), x4, x5, some (.ref t), x7, x8, x9, none, none] ∧ Last (wdD d) ws as j ∧ S' t = some (.lst ((rowsL (wdD d) ws as j).map intsU)) ∧ Kp [] S S') ?_ ?_
  · dsimp!
    refine ⟨by omega, ?_⟩
    refine for_inv mG (fun j ρ' S' => ∃ x4 x5 x7 x8 x9, ρ' = [some (drU d), some (.lst (ws.map .str)), some (.lst (as.map .str)), some (.int d.count), x4, x5, some (.ref t), x7, x8, x9, none, none] ∧ (∀ i, i < j → stg (wdD d) ws as (i + 1) ≠ stg (wdD d) ws as i) ∧ S' t = some (.lst ((rowsL (wdD d) ws as j).map intsU)) ∧ Kp [] S S') ⟨_, _, _, _, _, rfl, fun i hi => by omega, Sto.put_same, kk.put (.inl ft)⟩ ?_ ?_
    · rintro j u ρ' S' hx ⟨x4, x5, x7, x8, x9, rfl, hj, f1, f2⟩
      obtain ⟨rfl, -⟩ := rngU_at hx
      have hlow : j < d.count := stg_low (W := wdD d) c1 hj
      have hrowj : L2.atI ((rowsL (wdD d) ws as j).map intsU) (0 + (j : Int)) = some (intsU (rowL d.count (stg (wdD d) ws as j))) := by
        rw [Int.zero_add, at_nat (by omega), Int.toNat_natCast, List.getElem?_map, rowsL_get (by omega)]; rfl
      have hrow0 : L2.atI ((rowsL (wdD d) ws as j).map intsU) 0 = some (intsU (rowL d.count (stg (wdD d) ws as 0))) := by
        rw [at_nat (by omega), List.getElem?_map, Int.toNat_zero, rowsL_get (by omega)]; rfl
      refine ⟨trivial, ?_⟩
      dsimp!
      refine run_cons ?_
      dsimp! [n_al1]
      intro q hq
      have ntq : t ≠ q := fun z => by rw [← z, f1] at hq; cases hq
      have fq : S q = none := f2.fresh (by simp) hq
      refine cut mG (fun ρ' S2 => ∃ x5 x8, ρ' = [some (drU d), some (.lst (ws.map .str)), some (.lst (as.map .str)), some (.int d.count), some (.ref q), x5, some (.ref t), some (.int (0 + (j : Int))), x8, x9, none, none] ∧ S2 q = some (.lst ((List.range d.count).map (keyRow2 (wdD d) (stg (wdD d) ws as j) (st0 (wdD d) as) ws))) ∧ S2 t = some (.lst ((rowsL (wdD d) ws as j).map intsU)) ∧ Kp [] S S2) ?_ ?_
      · dsimp!
        refine ⟨by omega, ?_⟩
        rw [Int.toNat_natCast]
        refine for_inv mG (fun i ρ' S2 => ∃ x5 x8, ρ' = [some (drU d), some (.lst (ws.map .str)), some (.lst (as.map .str)), some (.int d.count), some (.ref q), x5, some (.ref t), some (.int (0 + (j : Int))), x8, x9, none, none] ∧ S2 q = some (.lst (((List.range d.count).map (keyRow2 (wdD d) (stg (wdD d) ws as j) (st0 (wdD d) as) ws)).take i)) ∧ S2 t = some (.lst ((rowsL (wdD d) ws as j).map intsU)) ∧ Kp [] S S2) ⟨_, _, rfl, Sto.put_same, (Sto.put_ne ntq).trans f1, f2.put (.inl fq)⟩ ?_ ?_
        · rintro i u ρ' S3 hx ⟨y5, y8, rfl, r1, r2, r3⟩
          obtain ⟨rfl, hi⟩ := rngU_at hx
          refine ⟨trivial, ?_⟩
          dsimp!
          refine run_cons ?_
          dsimp!
          refine lc_by mG (fun l acc S4 => S4 = S3 ∧ acc = (ws.take l).map fun w => .tup ((look (wdD d) (stg (wdD d) ws as j) i w).map .int)) ⟨rfl, rfl⟩ ?_ ?_
          · rintro l u acc S4 hu ⟨rfl, rfl⟩
            obtain ⟨w, hw, rfl⟩ := strs_map hu
            have hl := (List.getElem?_eq_some_iff.mp hw).1
            refine ⟨trivial, ?_⟩
            dsimp! [wipeU, drU, h19, r2, hrowj]
            refine ⟨rfl, d, w, i, stg (wdD d) ws as j, by rw [Int.zero_add], hd, hi, fun x hx => stg_b (W := wdD d) hx, ?_⟩
            dsimp only
            refine ⟨by simp; rw [sizeLine_eq]; omega, ?_⟩
            rw [List.take_add_one, hw]; simp
          · rintro acc S4 ⟨rfl, rfl⟩
            refine ⟨trivial, ?_⟩
            rw [List.length_map, List.take_length]
            dsimp!
            refine run_cons ?_
            have hx0 : L2.atI ((rowL d.count (stg (wdD d) ws as 0)).map U.int) (0 + (i : Int)) = some (.int (st0 (wdD d) as i)) := by
              rw [Int.zero_add, row_at (by omega) (by omega), Int.toNat_natCast]; rfl
            dsimp! [r1, r2, hrow0, hx0]
            refine ⟨by simp; rw [sizeLine_eq]; omega, ?_⟩
            refine run_nil ⟨_, _, rfl, ?_, (Sto.put_ne ntq).trans r2, r3.put (.inl fq)⟩
            rw [Sto.put_same, take_rng _ hi]; rfl
        · rintro ρ' S3 ⟨y5, y8, rfl, r1, r2, r3⟩
          rw [rngU_length, List.take_of_length_le (by simp)] at r1
          exact ⟨trivial, _, _, rfl, r1, r2, r3⟩
      rintro ρ' S3 ⟨y5, y8, rfl, r1, r2, r3⟩
      refine run_cons ?_
      dsimp! [h18]
      refine ⟨rfl, _, _, _, rfl, .inr ⟨q, rfl, r1⟩, keys_of2 (wdD d) _ _ ws d.count, by simp; omega, fun S4 k4 => ?_⟩
      have en := due_step ok ws as j
      have en' : numb ((List.range d.count).map (keyQ2 (wdD d) (stg (wdD d) ws as j) (st0 (wdD d) as) ws)) = rowL d.count (stg (wdD d) ws as (j + 1)) := en
      rw [en']
      have t4 := k4.at r2 (by simp)
      refine run_cons ?_
      dsimp! [t4, hrowj]
      rw [n_eqW]
      refine eq_dat rfl (ints_eqable _) (ints_eqable _) ?_
      rw [ueq_ints]
      refine ite2 (fun e => ?_) (fun e => ?_)
      · have e := of_decide_eq_true e
        have e2 : stg (wdD d) ws as (j + 1) = stg (wdD d) ws as j := stg_row.mp e
        refine run_cons ?_
        dsimp!
        exact ⟨j, _, _, _, _, _, rfl, ⟨hj, e2⟩, t4, r3.trans k4⟩
      · have e := of_decide_eq_false (Bool.eq_false_iff.mpr e)
        refine run_nil (run_cons ?_)
        dsimp! [t4]
        refine ⟨by rw [List.length_map, rowsL_len, sizeLine_eq]; omega, ?_⟩
        refine run_nil ⟨_, _, _, _, _, rfl, fun i hi => ?_, ?_, (r3.trans k4).put (.inl ft)⟩
        · by_cases z : i = j
          · subst z
            exact fun q => e (stg_row.mpr q)
          · exact hj i (by omega)
        · rw [Sto.put_same, rowsL_succ, List.map_append]; rfl
    · rintro ρ' S' ⟨x4, x5, x7, x8, x9, rfl, hj, f1, f2⟩
      rw [rngU_length] at hj
      have := stg_low (W := wdD d) c1 hj
      have e : (wdD d).n = d.count := rfl
      omega
  rintro ρ' S3 ⟨j, x4, x5, x7, x8, x9, rfl, hj, f1, f2⟩
  refine run_cons ?_
  dsimp! [f1]
  exact k j _ hj (f2.del (.inl ft))
end K22
namespace K22
open PySem PySem.Spec PyProof.Rows L2 Mm
theorem isi_list : kitB "list" "list" = some true := by decide +kernel
theorem isi_int : kitB "int" "int" = some true := by decide +kernel
theorem isi_bool : kitB "int" "bool" = some false := by decide +kernel
def spIsRows : FS := ⟨1, fun us S R _ => ∃ (t : Addr) (rs : List Addr), us = [.ref t] ∧ S t = some (.lst (rs.map .ref)) ∧ (∀ r ∈ rs, ∃ l : List Int, S r = some (.lst (l.map .int))) ∧ R (.bl true) S⟩
theorem body_is_rows (G : GV) (mG : GMono G) : ∀ us S R RX, us.length = pr_law_is_rows.length → spIsRows.sp us S R RX → wCms G (fun x _ S' => RX x S') ir_law_is_rows (startU nm_law_is_rows us) S { nx := fun _ S' => R .non S', rt := R } := by
  rintro us S R RX - ⟨t, rs, rfl, ht, hr, k⟩
  have e0 : startU nm_law_is_rows [.ref t] = [some (.ref t), none, none] := rfl
  rw [e0]
  unfold ir_law_is_rows
  refine run_cons ?_
  dsimp! [tyOf, ht]
  refine ⟨"list", true, rfl, isi_list, ?_⟩
  simp_all! []
  refine run_nil ?_
  refine cut mG (fun ρ' S' => S' = S ∧ ∃ x1 x2, ρ' = [some (.ref t), x1, x2]) ?_ ?_
  · dsimp! [ht]
    refine ⟨_, rfl, ?_⟩
    refine for_inv mG (fun i ρ' S' => S' = S ∧ ∃ x1 x2, ρ' = [some (.ref t), x1, x2]) ⟨rfl, _, _, rfl⟩ ?_ ?_
    · rintro i u ρ' S' hx ⟨rfl, x1, x2, rfl⟩
      rw [List.getElem?_map, Option.map_eq_some_iff] at hx
      obtain ⟨r, hri, rfl⟩ := hx
      obtain ⟨l, hl⟩ := hr r (List.mem_of_getElem? hri)
      refine ⟨ht, ?_⟩
      dsimp!
      refine run_cons ?_
      dsimp! [tyOf, hl]
      refine ⟨"list", true, rfl, isi_list, ?_⟩
      simp_all! []
      refine run_nil ?_
      refine cut mG (fun ρ' S2 => S2 = S' ∧ ∃ x1 x2, ρ' = [some (.ref t), x1, x2]) ?_ ?_
      · dsimp! [hl]
        refine ⟨_, rfl, ?_⟩
        refine for_inv mG (fun i ρ' S2 => S2 = S' ∧ ∃ x1 x2, ρ' = [some (.ref t), x1, x2]) ⟨rfl, _, _, rfl⟩ ?_ ?_
        · rintro j u ρ' S2 hx ⟨rfl, x1, x2, rfl⟩
          obtain ⟨z, hz, rfl⟩ := ints_map hx
          refine ⟨hl, ?_⟩
          dsimp!
          refine run_cons ?_
          dsimp! [tyOf]
          refine ⟨"int", true, rfl, isi_int, ?_⟩
          simp_all! []
          refine ⟨"int", false, rfl, isi_bool, ?_⟩
          simp_all! []
          refine run_nil ?_
          dsimp only
          exact run_nil ⟨rfl, _, _, rfl⟩
        · rintro ρ' S2 ⟨rfl, x1, x2, rfl⟩
          exact ⟨hl, rfl, _, _, rfl⟩
      rintro ρ' S2 ⟨rfl, x1, x2, rfl⟩
      exact run_nil ⟨rfl, _, _, rfl⟩
    · rintro ρ' S' ⟨rfl, x1, x2, rfl⟩
      exact ⟨ht, rfl, _, _, rfl⟩
  rintro ρ' S' ⟨rfl, x1, x2, rfl⟩
  refine run_cons ?_
  dsimp!
  exact k
/-! one arrow, one mark turned -/
def spTurned : FS := ⟨3, fun us S R _ => ∃ (rows : List (List Int)) (x y : Int) (m count : Nat), us = [rowsU rows, .int x, .int y] ∧ 0 ≤ x ∧ x < rows.length ∧ rows.length ≤ 64 ∧ m ≤ 60 ∧ 0 ≤ y ∧ y < count ∧ (∀ r ∈ rows, r.length ≤ m ∧ ∀ y ∈ r, 0 ≤ y ∧ y < (count : Int)) ∧
  ∀ rows' S', rows'.length = rows.length → (∀ r ∈ rows', r.length ≤ m + 1 ∧ ∀ y ∈ r, 0 ≤ y ∧ y < (count : Int)) → Kp [] S S' → R (rowsU rows') S'⟩
theorem lists_map {rows : List (List Int)} {i : Nat} {u : U} (h : (rows.map intsU)[i]? = some u) : ∃ r, rows[i]? = some r ∧ u = intsU r := by
  rw [List.getElem?_map, Option.map_eq_some_iff] at h
  obtain ⟨r, h1, h2⟩ := h
  exact ⟨r, h1, h2.symm⟩
def RowU (S0 S : Sto) (count m : Nat) (u : U) : Prop := (∃ r, u = .ref r ∧ S0 r = none ∧ ∃ ys : List Int, S r = some (.lst (ys.map .int)) ∧ ys.length ≤ m ∧ ∀ y ∈ ys, 0 ≤ y ∧ y < (count : Int)) ∨ ∃ ys : List Int, u = intsU ys ∧ ys.length ≤ m ∧ ∀ y ∈ ys, 0 ≤ y ∧ y < (count : Int)
theorem frz_us {S0 S : Sto} {count m : Nat} : ∀ {us : List U}, (∀ u ∈ us, RowU S0 S count m u) → ∃ (rows : List (List Int)) (D : List Addr), Dfzs S us (rows.map intsU) D ∧ rows.length = us.length ∧ (∀ p ∈ D, S0 p = none) ∧ ∀ r ∈ rows, r.length ≤ m ∧ ∀ y ∈ r, 0 ≤ y ∧ y < (count : Int)
  | [], _ => ⟨[], [], .nil, rfl, by simp, by simp⟩
  | u :: us, h => by
    obtain ⟨rows, D, h1, h2, h3, h4⟩ := frz_us (us := us) fun x hx => h x (List.mem_cons_of_mem _ hx)
    rcases h u List.mem_cons_self with ⟨r, rfl, a1, ys, a2, a3, a4⟩ | ⟨ys, rfl, a3, a4⟩
    · obtain ⟨D2, b1, rfl⟩ := Dfzs.dats (S := S) (ys.map U.int)
      refine ⟨ys :: rows, [r] ++ D, .cons (.lst a2 b1) h1, by simp [h2], fun p hp => ?_, fun x hx => ?_⟩
      · rcases List.mem_append.mp hp with hp | hp
        · rw [List.mem_singleton.mp hp]; exact a1
        · exact h3 p hp
      · rcases List.mem_cons.mp hx with rfl | hx
        · exact ⟨a3, a4⟩
        · exact h4 x hx
    · refine ⟨ys :: rows, [] ++ D, .cons (.dat _) h1, by simp [h2], fun p hp => h3 p (by simpa using hp), fun x hx => ?_⟩
      rcases List.mem_cons.mp hx with rfl | hx
      · exact ⟨a3, a4⟩
      · exact h4 x hx
theorem first_at {y : Int} : ∀ {ns : List Int}, y ∈ ns → ∃ j : Nat, ns[j]? = some y ∧ ∀ m : Nat, m < j → ns[m]? ≠ some y
  | [], h => by cases h
  | z :: ns, h => by
    by_cases e : z = y
    · exact ⟨0, by simp [e], fun m hm => by omega⟩
    · have hy : y ∈ ns := by
        rcases List.mem_cons.mp h with h | h
        · exact absurd h.symm e
        · exact h
      obtain ⟨j, h1, h2⟩ := first_at hy
      refine ⟨j + 1, h1, fun m hm => ?_⟩
      cases m with
      | zero => simpa using e
      | succ m => exact h2 m (by omega)
theorem body_turned (G : GV) (mG : GMono G) : ∀ us S R RX, us.length = pr_law_turned.length → spTurned.sp us S R RX → wCms G (fun x _ S' => RX x S') ir_law_turned (startU nm_law_turned us) S { nx := fun _ S' => R .non S', rt := R } := by
  rintro us S R RX - ⟨rows, x, y, m, count, rfl, hx0, hx1, hl, hm, hy0, hy1, hr, k⟩
  have e0 : startU nm_law_turned [rowsU rows, .int x, .int y] = [some (rowsU rows), some (.int x), some (.int y), none, none] := rfl
  rw [e0]
  unfold ir_law_turned
  refine run_cons ?_
  dsimp!
  refine lc_by mG (fun j acc S' => ∃ rs : List Addr, acc = rs.map .ref ∧ rs.length = j ∧ Kp [] S S' ∧ ∀ r ∈ rs, S r = none ∧ ∃ ys : List Int, S' r = some (.lst (ys.map .int)) ∧ ys.length ≤ m ∧ ∀ y ∈ ys, 0 ≤ y ∧ y < (count : Int)) ⟨[], rfl, rfl, Kp.refl, by simp⟩ ?_ ?_
  · rintro j u acc S' hu ⟨rs, rfl, h1, h2, h3⟩
    obtain ⟨r, hri, rfl⟩ := lists_map hu
    have hj := (List.getElem?_eq_some_iff.mp hri).1
    refine ⟨trivial, ?_⟩
    dsimp! [wipeU, n_al1]
    intro p hp
    have fp := h2.fresh (by simp) hp
    refine ⟨by simp; rw [sizeLine_eq]; omega, rs ++ [p], by simp, by simp [h1], h2.put (.inl fp), fun q hq => ?_⟩
    rcases List.mem_append.mp hq with hq | hq
    · obtain ⟨a1, ys, a2, a3⟩ := h3 q hq
      have : q ≠ p := fun z => by rw [z, hp] at a2; cases a2
      exact ⟨a1, ys, (Sto.put_ne this).trans a2, a3⟩
    · rw [List.mem_singleton.mp hq]
      obtain ⟨r1, r2⟩ := hr r (List.mem_of_getElem? hri)
      exact ⟨fp, r, Sto.put_same, r1, r2⟩
  rintro acc S1 ⟨rs, rfl, h1, h2, h3⟩
  rw [List.length_map] at h1
  refine ⟨trivial, ?_⟩
  dsimp! [n_al1]
  intro f hf
  have ff : S f = none := h2.fresh (by simp) hf
  obtain ⟨r, hx2, hx3⟩ := at_in (xs := rs) (i := x) hx0 (by omega)
  have hat : L2.atI (rs.map U.ref) x = some (.ref r) := by rw [at_nat hx0, List.getElem?_map, hx3]; rfl
  have hmem := List.mem_of_getElem? hx3
  obtain ⟨fr, ys, hys, ly, by_⟩ := h3 r hmem
  have nrf : r ≠ f := fun z => by rw [z, hf] at hys; cases hys
  have hys2 : (S1.put f (.lst (rs.map .ref))) r = some (.lst (ys.map .int)) := (Sto.put_ne nrf).trans hys
  have fin : ∀ (us : List U) S' , us.length = rows.length → S' f = some (.lst us) → Kp [] S S' → (∀ u ∈ us, RowU S S' count (m + 1) u) → wCms G (fun x _ S' => RX x S') (.cons (.ret (.gst (.var 3))) .nil) [some (rowsU rows), some (.int x), some (.int y), some (.ref f), none] S' { nx := fun _ S' => R .non S', rt := R } := by
    intro us S' l1 l2 l3 l4
    obtain ⟨rows', D, d1, d2, d3, d4⟩ := frz_us l4
    refine run_cons ?_
    dsimp!
    refine ⟨_, _, gst_deep (.lst l2 d1), k rows' _ (by omega) d4 (l3.delS fun p hp => .inl ?_)⟩
    rcases List.mem_cons.mp hp with rfl | hp
    · exact ff
    · exact d3 p hp
  have old : ∀ S', (∀ q ∈ rs, q ≠ r → S' q = S1 q) → ∀ q ∈ rs, q ≠ r → RowU S S' count (m + 1) (.ref q) := by
    intro S' hS q hq nq
    obtain ⟨a1, zs, a2, a3, a4⟩ := h3 q hq
    exact .inl ⟨q, rfl, a1, zs, by rw [hS q hq nq]; exact a2, by omega, a4⟩
  refine cut mG (fun ρ' S' => ∃ us, ρ' = [some (rowsU rows), some (.int x), some (.int y), some (.ref f), none] ∧ us.length = rows.length ∧ S' f = some (.lst us) ∧ Kp [] S S' ∧ ∀ u ∈ us, RowU S S' count (m + 1) u) ?_ ?_
  · dsimp! [hat]
    rw [n_in]
    simp only [inW, hys2]
    refine ⟨rfl, ints_flat ys, ?_⟩
    rw [ints_mem]
    refine ite2 (fun e => ?_) (fun e => ?_)
    · have e := of_decide_eq_true e
      obtain ⟨j, j1, j2⟩ := first_at e
      refine run_cons ?_
      dsimp! [hat, hys2]
      refine ⟨ys, j, hys2, j1, j2, ?_⟩
      refine run_nil ⟨rs.map .ref, rfl, by simp; omega, (Sto.put_ne (Ne.symm nrf)).trans Sto.put_same, (h2.put (.inl ff)).put (.inl fr), fun u hu => ?_⟩
      obtain ⟨q, hq, rfl⟩ := List.mem_map.mp hu
      by_cases z : q = r
      · subst z
        refine .inl ⟨q, rfl, fr, ys.eraseIdx j, Sto.put_same, ?_, fun v hv => by_ v (List.mem_of_mem_eraseIdx hv)⟩
        have := List.length_eraseIdx_le ys j
        omega
      · refine old _ (fun q' hq' nq' => ?_) q hq z
        rw [Sto.put_ne nq', Sto.put_ne]
        rintro rfl
        obtain ⟨_, zs, a2, _⟩ := h3 _ hq'
        rw [hf] at a2; cases a2
    · refine run_cons ?_
      dsimp! [hat]
      refine ⟨ys.map .int, [.int y], by simp only [lstOf, hys2], rfl, by simp; rw [sizeLine_eq]; omega, ?_⟩
      rw [n_al0]
      refine ⟨_, ys ++ [y], rfl, ?_, fun ns p1 p2 => ?_⟩
      · have := intsOf_map (ys ++ [y])
        rw [List.map_append] at this
        exact this
      dsimp!
      have len := p1.length_eq
      refine ⟨x.toNat, ?_, ?_⟩
      · unfold ixN
        rw [if_pos hx0, if_pos (by rw [List.length_map]; omega)]
      · refine run_nil ⟨(rs.map U.ref).set x.toNat (intsU ns), rfl, by simp; omega, Sto.put_same, h2.put (.inl ff), fun u hu => ?_⟩
        rcases List.mem_or_eq_of_mem_set hu with hu | rfl
        · obtain ⟨q, hq, rfl⟩ := List.mem_map.mp hu
          obtain ⟨a1, zs, a2, a3, a4⟩ := h3 q hq
          have nq : q ≠ f := fun z => by rw [z, hf] at a2; cases a2
          exact .inl ⟨q, rfl, a1, zs, (Sto.put_ne nq).trans a2, by omega, a4⟩
        · refine .inr ⟨ns, rfl, by rw [len]; simp; omega, fun v hv => ?_⟩
          have := p1.mem_iff.mp hv
          rcases List.mem_append.mp this with h | h
          · exact by_ v h
          · rw [List.mem_singleton.mp h]; exact ⟨hy0, hy1⟩
  rintro ρ' S' ⟨us, rfl, l1, l2, l3, l4⟩
  exact fin us S' l1 l2 l3 l4
/-! the others -/
theorem OkDr.mono {d : Dr} (h : OkDr 60 d) : OkDr 61 d := ⟨h.c1, h.c2, fun p hp => ⟨(h.lk p hp).1, (h.lk p hp).2.1, fun r hr => ⟨by have := ((h.lk p hp).2.2 r hr).1; omega, ((h.lk p hp).2.2 r hr).2⟩⟩, fun p hp => ⟨(h.sp p hp).1, (h.sp p hp).2.1, fun z => by have := (h.sp p hp).2.2.1 z; omega, (h.sp p hp).2.2.2⟩, h.ll, h.sl⟩
theorem putA_has {κ α : Type} [DecidableEq κ] {l : List (κ × α)} {w : κ} {r : α} (h : (getA l w).isSome = true) : (putA l w r).length = l.length := by
  unfold putA
  rw [if_pos]
  · rw [List.length_map]
  · obtain ⟨q, hq, e⟩ := List.mem_map.mp (has_key.mp h)
    exact List.any_eq_true.mpr ⟨q, hq, by simp [e]⟩
theorem keysS {α : Type} (l : List (List Nat × α)) : ((l.map fun p => key p.1).map keyV) = (l.map (·.1)).map U.str := by
  rw [List.map_map, List.map_map]
  exact List.map_congr_left fun p _ => keyV_key p.1
def spOthers : FS := ⟨4, fun us S R _ => ∃ (b kp c : Addr) (n : Int) (d : Dr) (ns as : List (List Nat)), us = [.ref b, drU d, .lst (ns.map .str), .lst (as.map .str)] ∧ Bx b kp c S n ∧ n < 2 ^ 28 ∧ OkDr 60 d ∧ d.count ≤ 5 ∧ HasAll ns as d ∧ ns ≠ [] ∧ ns.length ≤ 3 ∧ as.length ≤ 3 ∧ (∀ w ∈ as, Lo w) ∧
  ∀ (L : List Dr) S', (∀ d' ∈ L, OkDr 61 d') → L.length ≤ 2 → Kp [kp, c] S S' → R (.lst (L.map drU)) S'⟩
theorem strs_eqable {as : List (List Nat)} (h : ∀ w ∈ as, Lo w) : eqable (.lst (as.map U.str)) := by
  have h1 : datas (as.map U.str) = true := by
    induction as with
    | nil => rfl
    | cons w as ih =>
      simp only [List.map_cons, datas, U.data, ih fun w hw => h w (List.mem_cons_of_mem _ hw), Bool.and_true, List.all_eq_true, decide_eq_true_eq]
      exact h w List.mem_cons_self
  have h2 : deps (as.map U.str) = 0 := by
    clear h h1
    induction as with
    | nil => rfl
    | cons w as ih => simp only [List.map_cons, deps, U.dep, ih]; rfl
  exact ⟨h1, by simp only [U.dep, h2]; omega⟩
theorem body_others (G : GV) (mG : GMono G) (h9 : G.fns[9]? = some spTake) (h22 : G.fns[22]? = some spTurned) : ∀ us S R RX, us.length = pr_law_others.length → spOthers.sp us S R RX → wCms G (fun x _ S' => RX x S') ir_law_others (startU nm_law_others us) S { nx := fun _ S' => R .non S', rt := R } := by
  rintro us S R RX - ⟨b, kp, c, n, d, ns, as, rfl, hb, hn, hd, hc5, hA, ne, l1, l2, hlow, k⟩
  have e0 : startU nm_law_others [.ref b, drU d, .lst (ns.map .str), .lst (as.map .str)] = [some (.ref b), some (drU d), some (.lst (ns.map .str)), some (.lst (as.map .str)), none, none, none, none, none, none, none] := rfl
  rw [e0]
  unfold ir_law_others
  have c1 := hd.c1
  have ll := hd.ll
  have sl := hd.sl
  have nl : 0 < ns.length := List.length_pos_iff.mpr ne
  refine run_cons ?_
  dsimp! [drU]
  refine run_cons ?_
  dsimp! [h9, List.length_map]
  refine take_ok hb (by omega) (by omega) (by omega) fun i0 S1 a0 a1 hb1 k1 => ?_
  obtain ⟨w, hw1, hw2⟩ := at_in (xs := ns) a0 (by omega)
  have hat : L2.atI (ns.map U.str) i0 = some (.str w) := by rw [at_nat a0, List.getElem?_map, hw2]; rfl
  have hwn := List.mem_of_getElem? hw2
  dsimp! [hat]
  refine run_cons ?_
  dsimp!
  intro l hl
  obtain ⟨q1, q2, q3⟩ := hb1.new hl
  have fl : S l = none := k1.fresh (by simp [q2, q3]) hl
  refine cut mG (fun ρ' S' => ∃ (x : Option U) (lk : List (List Nat × List (List Int))), ρ' = [some (.ref b), some (drU d), some (.lst (ns.map .str)), some (.lst (as.map .str)), some (.int d.count), some (.str w), some (.ref l), x, none, none, none] ∧ S' l = some (.dct (lk.map lkE)) ∧ lk.length ≤ 5 ∧ (∀ p ∈ lk, IsName p.1 ∧ RowsOk d.count 60 p.2) ∧ (∀ v ∈ d.lk.map (·.1), (getA lk v).isSome = true) ∧ Bx b kp c S' (n + 1) ∧ Kp [kp, c] S S') ?_ ?_
  · dsimp! [drU, lkU]
    rw [keysS]
    refine for_inv mG (fun i ρ' S' => ∃ (x : Option U) (lk : List (List Nat × List (List Int))), ρ' = [some (.ref b), some (drU d), some (.lst (ns.map .str)), some (.lst (as.map .str)), some (.int d.count), some (.str w), some (.ref l), x, none, none, none] ∧ S' l = some (.dct (lk.map lkE)) ∧ lk.length ≤ i ∧ (∀ p ∈ lk, IsName p.1 ∧ RowsOk d.count 60 p.2) ∧ (∀ v ∈ (d.lk.map (·.1)).take i, (getA lk v).isSome = true) ∧ Bx b kp c S' (n + 1) ∧ Kp [kp, c] S S') ⟨_, [], rfl, Sto.put_same, by simp, by simp, by simp, hb1.put ⟨q1, q2, q3⟩, k1.put (.inl fl)⟩ ?_ ?_
    · rintro i u ρ' S' hx ⟨x, lk, rfl, g1, g2, g3, g4, g5, g6⟩
      obtain ⟨v, hv, rfl⟩ := strs_map hx
      have hi := (List.getElem?_eq_some_iff.mp hv).1
      rw [List.length_map] at hi
      obtain ⟨rows, hg⟩ := get_mem (l := d.lk) (w := v) (List.mem_of_getElem? hv)
      refine ⟨trivial, ?_⟩
      dsimp!
      refine run_cons ?_
      dsimp! [drU]
      refine ix_lk hg ?_
      refine set_lk (r := rows) g1 (by omega) ?_
      have := putA_len lk v rows
      refine run_nil ⟨_, putA lk v rows, rfl, Sto.put_same, by omega, putA_all g3 (hd.lk _ (getA_mem hg)), ?_, g5.put ⟨q1, q2, q3⟩, g6.put (.inl fl)⟩
      rw [take_len hv]; exact has_put g4
    · rintro ρ' S' ⟨x, lk, rfl, g1, g2, g3, g4, g5, g6⟩
      rw [List.length_map, List.length_map] at g2 g4
      rw [List.take_of_length_le (by simp)] at g4
      exact ⟨trivial, _, lk, rfl, g1, by omega, g3, g4, g5, g6⟩
  rintro ρ' S2 ⟨x, lk, rfl, g1, g2, g3, g4, g5, g6⟩
  have hwd : w ∈ d.lk.map (·.1) := has_key.mp (hA.1 w hwn)
  obtain ⟨rows, hg⟩ := Option.isSome_iff_exists.mp (g4 w hwd)
  have hrow := (g3 _ (getA_mem hg)).2
  refine run_cons ?_
  dsimp! [h22]
  refine ix_dct g1 (u := rowsU rows) ?_ ?_
  · show getA (lk.map fun p => (key p.1, rowsU p.2)) (key w) = _
    rw [getA_map, hg]; rfl
  dsimp! [h9]
  refine take_ok g5 (by omega) (by omega) (by omega) fun x0 S3 b0 b1 hb3 k3 => ?_
  refine take_ok hb3 (by omega) (by omega) (by omega) fun y0 S4 d0 d1 hb4 k4 => ?_
  have len : rows.length = d.count := hrow.1
  refine ⟨rfl, rows, x0, y0, 60, d.count, rfl, b0, by omega, by omega, by omega, d0, d1, hrow.2, fun rows' S5 r1 r2 r3 => ?_⟩
  have g1' := r3.at (k4.at (k3.at g1 (by simp [q2, q3])) (by simp [q2, q3])) (by simp)
  refine set_lk (r := rows') g1' (by omega) ?_
  have hb5 : Bx b kp c S5 (n + 1 + 1 + 1) := hb4.kp fun a o e => r3.at e (by simp)
  have k5 : Kp [kp, c] S S5 := ((g6.trans k3).trans k4).trans fun a o e m => r3.at e (by simp)
  have ok1 : ∀ p ∈ putA lk w rows', IsName p.1 ∧ RowsOk d.count 61 p.2 := by
    refine putA_all (fun p hp => ?_) ⟨(g3 _ (getA_mem hg)).1, by show rows'.length = d.count; omega, r2⟩
    obtain ⟨z1, z2, z3⟩ := g3 p hp
    exact ⟨z1, z2, fun r hr => ⟨by have := (z3 r hr).1; omega, (z3 r hr).2⟩⟩
  have lp : (putA lk w rows').length = lk.length := putA_has (by rw [hg]; rfl)
  have hdm := hd.mono
  have od1 : OkDr 61 ⟨d.count, putA lk w rows', d.sp⟩ := ⟨hd.c1, hd.c2, ok1, hdm.sp, by show (putA lk w rows').length ≤ 5; omega, hd.sl⟩
  refine run_cons ?_
  dsimp!
  refine ⟨_, _, frz_lk Sto.put_same, ?_⟩
  dsimp! [drU, n_al1]
  intro f hf
  have S6e : ∀ p o, p ≠ l → S5 p = some o → (delS (S5.put l (.dct ((putA lk w rows').map lkE))) [l]) p = some o := fun p o np e => by
    rw [delS_ne (by simpa using np), Sto.put_ne np]; exact e
  have hb6 : Bx b kp c (delS (S5.put l (.dct ((putA lk w rows').map lkE))) [l]) (n + 3) := ((hb5.put ⟨q1, q2, q3⟩).dels (by simp [q1, q2, q3])).mono (by omega)
  have k6 : Kp [kp, c] S (delS (S5.put l (.dct ((putA lk w rows').map lkE))) [l]) := (k5.put (.inl fl)).delS (by simp [fl])
  generalize delS (S5.put l (.dct ((putA lk w rows').map lkE))) [l] = S6 at hf hb6 k6
  clear S6e
  obtain ⟨f1, f2, f3⟩ := hb6.new hf
  have ff : S f = none := k6.fresh (by simp [f2, f3]) hf
  have hb7 := hb6.put (p := f) (o := .lst [.lst [.int d.count, lkU (putA lk w rows'), spU d.sp]]) ⟨f1, f2, f3⟩
  have k7 : Kp [kp, c] S (S6.put f (.lst [.lst [.int d.count, lkU (putA lk w rows'), spU d.sp]])) := k6.put (.inl ff)
  refine cut mG (fun ρ' S' => ∃ (x9 x10 : Option U) (x7 : Option U) (L : List Dr), ρ' = [some (.ref b), some (drU d), some (.lst (ns.map .str)), some (.lst (as.map .str)), some (.int d.count), some (.str w), some (.ref l), x7, some (.ref f), x9, x10] ∧ S' f = some (.lst (L.map drU)) ∧ (∀ d' ∈ L, OkDr 61 d') ∧ L.length ≤ 2 ∧ Kp [kp, c] S S') ?_ ?_
  · dsimp!
    rw [n_neW]
    refine eq_dat rfl (strs_eqable hlow) nil_eqable ?_
    rw [ueq_nil, List.isEmpty_map]
    cases hz : as.isEmpty with
    | true =>
      simp_all! []
      refine run_nil ⟨_, _, _, [⟨d.count, putA lk w rows', d.sp⟩], rfl, Sto.put_same, fun d' hd' => ?_, by simp, k7⟩
      rw [List.mem_singleton.mp hd']; exact od1
    | false =>
      have al : 0 < as.length := List.length_pos_iff.mpr fun z => by rw [z] at hz; cases hz
      simp_all! []
      refine run_cons ?_
      dsimp! [h9, List.length_map]
      refine take_ok hb7 (by omega) (by omega) (by omega) fun i1 S8 e0 e1 hb8 k8 => ?_
      have f8 := k8.at (Sto.put_same (S := S6) (a := f)) (by simp [f2, f3])
      generalize S6.put f (.lst [.lst [.int d.count, lkU (putA lk w rows'), spU d.sp]]) = S7 at hb7 k7 k8
      obtain ⟨a, ha1, ha2⟩ := at_in (xs := as) e0 (by omega)
      have hat : L2.atI (as.map U.str) i1 = some (.str a) := by rw [at_nat e0, List.getElem?_map, ha2]; rfl
      have ham := List.mem_of_getElem? ha2
      have k08 := k7.trans k8
      dsimp! [hat]
      refine run_cons ?_
      dsimp!
      intro t ht
      obtain ⟨t1, t2, t3⟩ := hb8.new ht
      have ft : S t = none := k08.fresh (by simp [t2, t3]) ht
      have ntf : f ≠ t := fun z => by rw [← z, f8] at ht; cases ht
      refine cut mG (fun ρ' S' => ∃ (x : Option U) (sp : List (List Nat × List Int)), ρ' = [some (.ref b), some (drU d), some (.lst (ns.map .str)), some (.lst (as.map .str)), some (.int d.count), some (.str w), some (.ref l), x, some (.ref f), some (.str a), some (.ref t)] ∧ S' t = some (.dct (sp.map spE)) ∧ sp.length ≤ 5 ∧ (∀ p ∈ sp, IsWord p.1 ∧ p.2.length < 64 ∧ (d.count ≤ 5 → p.2.length ≤ 60 - 55) ∧ ∀ y ∈ p.2, 0 ≤ y ∧ y < d.count) ∧ (∀ v ∈ d.sp.map (·.1), (getA sp v).isSome = true) ∧ Kp [] S8 S') ?_ ?_
      · dsimp! [drU, spU]
        rw [keysS]
        refine for_inv mG (fun i ρ' S' => ∃ (x : Option U) (sp : List (List Nat × List Int)), ρ' = [some (.ref b), some (drU d), some (.lst (ns.map .str)), some (.lst (as.map .str)), some (.int d.count), some (.str w), some (.ref l), x, some (.ref f), some (.str a), some (.ref t)] ∧ S' t = some (.dct (sp.map spE)) ∧ sp.length ≤ i ∧ (∀ p ∈ sp, IsWord p.1 ∧ p.2.length < 64 ∧ (d.count ≤ 5 → p.2.length ≤ 60 - 55) ∧ ∀ y ∈ p.2, 0 ≤ y ∧ y < d.count) ∧ (∀ v ∈ (d.sp.map (·.1)).take i, (getA sp v).isSome = true) ∧ Kp [] S8 S') ⟨_, [], rfl, Sto.put_same, by simp, by simp, by simp, Kp.refl.put (.inl ht)⟩ ?_ ?_
        · rintro i u ρ' S' hx ⟨x, sp, rfl, g1, g2, g3, g4, g5⟩
          obtain ⟨v, hv, rfl⟩ := strs_map hx
          have hi := (List.getElem?_eq_some_iff.mp hv).1
          rw [List.length_map] at hi
          obtain ⟨r, hg⟩ := get_mem (l := d.sp) (w := v) (List.mem_of_getElem? hv)
          refine ⟨trivial, ?_⟩
          dsimp!
          refine run_cons ?_
          dsimp! [drU]
          refine ix_sp hg ?_
          refine set_sp (r := r) g1 (by omega) ?_
          have := putA_len sp v r
          refine run_nil ⟨_, putA sp v r, rfl, Sto.put_same, by omega, putA_all g3 (hd.sp _ (getA_mem hg)), ?_, g5.put (.inl ht)⟩
          rw [take_len hv]; exact has_put g4
        · rintro ρ' S' ⟨x, sp, rfl, g1, g2, g3, g4, g5⟩
          rw [List.length_map, List.length_map] at g2 g4
          rw [List.take_of_length_le (by simp)] at g4
          exact ⟨trivial, _, sp, rfl, g1, by omega, g3, g4, g5⟩
      rintro ρ' S9 ⟨x, sp, rfl, g1, g2, g3, g4, g5⟩
      have hb9 : Bx b kp c S9 (n + 4) := (hb8.kp fun p o e => g5.at e (by simp)).mono (by omega)
      have k09 : Kp [kp, c] S S9 := k08.trans fun p o e m => g5.at e (by simp)
      have f9 := g5.at f8 (by simp)
      have had : a ∈ d.sp.map (·.1) := has_key.mp (hA.2 a ham)
      obtain ⟨r, hg⟩ := Option.isSome_iff_exists.mp (g4 a had)
      have hsp := g3 _ (getA_mem hg)
      have r5 : r.length ≤ 5 := hsp.2.2.1 hc5
      refine run_cons ?_
      dsimp! [h22]
      refine ix_dct g1 (u := intsU r) ?_ ?_
      · show getA (sp.map fun p => (key p.1, intsU p.2)) (key a) = _
        rw [getA_map, hg]; rfl
      dsimp! [h9]
      refine take_ok hb9 (by omega) (by omega) (by omega) fun y1 S10 v0 v1 hb10 k10 => ?_
      refine ⟨rfl, [r], 0, y1, 5, d.count, rfl, by omega, by simp, by simp, by omega, v0, v1, fun r' hr' => ?_, fun rows2 S11 r1 r2 r3 => ?_⟩
      · rw [List.mem_singleton.mp hr']; exact ⟨r5, hsp.2.2.2⟩
      cases rows2 with
      | nil => cases r1
      | cons r2' rest =>
        obtain ⟨u1, u2⟩ := r2 r2' List.mem_cons_self
        dsimp!
        have g11 := r3.at (k10.at g1 (by simp [t2, t3])) (by simp)
        have f11 := r3.at (k10.at f9 (by simp [f2, f3])) (by simp)
        refine set_sp (r := r2') g11 (by omega) ?_
        have k11 : Kp [kp, c] S S11 := (k09.trans k10).trans fun p o e m => r3.at e (by simp)
        have lp2 : (putA sp a r2').length = sp.length := putA_has (by rw [hg]; rfl)
        refine run_cons ?_
        dsimp! [drU, Sto.put_ne ntf, f11]
        refine ⟨_, _, frz_sp Sto.put_same, ?_⟩
        dsimp! [delS_ne (show f ∉ [t] by simpa using ntf), Sto.put_ne ntf, f11]
        refine ⟨by rw [sizeLine_eq]; omega, ?_⟩
        have od2 : OkDr 61 ⟨d.count, d.lk, putA sp a r2'⟩ := ⟨hd.c1, hd.c2, hdm.lk, by
          refine putA_all (fun p hp => ?_) ⟨hsp.1, by show r2'.length < 64; omega, fun _ => by show r2'.length ≤ 61 - 55; omega, u2⟩
          obtain ⟨z1, z2, z3, z4⟩ := g3 p hp
          exact ⟨z1, z2, fun q => by have := z3 q; omega, z4⟩, hd.ll, by show (putA sp a r2').length ≤ 5; omega⟩
        refine run_nil ⟨_, _, _, [⟨d.count, putA lk w rows', d.sp⟩, ⟨d.count, d.lk, putA sp a r2'⟩], rfl, Sto.put_same, fun d' hd' => ?_, by simp, ((k11.put (.inl ft)).delS (by simp [ft])).put (.inl ff)⟩
        rcases List.mem_cons.mp hd' with rfl | hd'
        · exact od1
        · rw [List.mem_singleton.mp hd']; exact od2
  rintro ρ' S' ⟨x9, x10, x7, L, rfl, w1, w2, w3, w4⟩
  refine run_cons ?_
  dsimp! [w1]
  exact k L _ w2 w3 (w4.del (.inl ff))
end K22
namespace K22
open PySem PySem.Spec PyProof.Rows L2 Mm
theorem sns_rows {S : Sto} : ∀ {rs : List Addr} {L : List (List Int)}, rs.length = L.length → (∀ (j : Nat) r l, rs[j]? = some r → L[j]? = some l → S r = some (.lst (l.map .int))) → Sns S (rs.map .ref) (L.map intsU)
  | [], [], _, _ => .nil
  | [], _ :: _, h, _ => by cases h
  | _ :: _, [], h, _ => by cases h
  | r :: rs, l :: L, h, k => by
    refine Sns.cons (Sn.ref (k 0 r l rfl rfl) (Sns.data (ints_data l))) (sns_rows (by simpa using h) fun j r' l' h1 h2 => k (j + 1) r' l' h1 h2)
theorem rows_data (L : List (List Int)) : datas (L.map intsU) = true := by
  induction L with
  | nil => rfl
  | cons l L ih => simp only [List.map_cons, datas, U.data, ints_data, ih, Bool.and_true]
theorem rows_dep (L : List (List Int)) : deps (L.map intsU) ≤ 1 := by
  induction L with
  | nil => simp [deps]
  | cons l L ih => simp only [List.map_cons, deps, U.dep, ints_dep]; omega
theorem rows_eqable (L : List (List Int)) : eqable (rowsU L) := ⟨rows_data L, by have := rows_dep L; simp only [rowsU, U.dep]; omega⟩
theorem ueqs_rows : ∀ a b : List (List Int), ueqs (a.map intsU) (b.map intsU) = decide (a = b)
  | [], [] => rfl
  | [], _ :: _ => rfl
  | _ :: _, [] => rfl
  | x :: a, y :: b => by
    simp only [List.map_cons, ueqs, ueqs_rows a b, ueq_ints]
    by_cases e : x = y
    · subst e; simp
    · simp [e]
theorem ueq_rows (a b : List (List Int)) : ueq (rowsU a) (rowsU b) = decide (a = b) := ueqs_rows a b
theorem Told.kps {S S' S'' : Sto} {t : Addr} {L : List (List Int)} {rs : List Addr} (T : Told S S' t L rs) (k : Kp [] S' S'') : Told S S'' t L rs := ⟨T.t0, T.r0, T.nd, k.at T.t1 (by simp), T.ln, fun j r l h1 h2 => k.at (T.r1 j r l h1 h2) (by simp), T.kp.trans k⟩
/-- told = due -/
theorem Told.ne {S S' : Sto} {t : Addr} {L : List (List Int)} {rs : List Addr} {k : Bool → Prop} (T : Told S S' t L rs) (h : k false) : copW .ne (.ref t) (rowsU L) S' k := by
  rw [n_neW]
  exact eq_sn rfl (Sn.ref T.t1 (sns_rows T.ln T.r1)) (Sn.data (rows_data L)) (rows_eqable L) (rows_eqable L) (by rw [ueq_rows]; simpa using h)
theorem Told.isRows {S S' : Sto} {t : Addr} {L : List (List Int)} {rs : List Addr} {R : Post} {RX : Xn → Sto → Prop} (T : Told S S' t L rs) (h : R (.bl true) S') : [U.ref t].length = spIsRows.n ∧ spIsRows.sp [.ref t] S' R RX := by
  refine ⟨rfl, t, rs, rfl, T.t1, fun r hr => ?_, h⟩
  obtain ⟨j, hj⟩ := List.mem_iff_getElem?.mp hr
  have h1 := (List.getElem?_eq_some_iff.mp hj).1
  rw [T.ln] at h1
  exact ⟨_, T.r1 j r L[j] hj (List.getElem?_eq_getElem h1)⟩
section
variable {d : Dr} {M : Mo} {ws ws' as as' : List (List Nat)} {k : Nat}
theorem stg_md (h : MdOf d M) (k : Nat) : stg (wdM M) ws as k = stg (wdD d) ws as k := stg_same (same_of h) k
theorem rowsL_md (h : MdOf d M) (k : Nat) : rowsL (wdM M) ws as k = rowsL (wdD d) ws as k := by
  unfold rowsL
  refine List.map_congr_left fun j _ => ?_
  rw [stg_md h]
  show rowL M.count _ = rowL d.count _
  rw [h.n]
theorem last_md (h : MdOf d M) : Last (wdM M) ws as k ↔ Last (wdD d) ws as k := by
  unfold Last
  simp only [stg_md h]
theorem last_ord {W : Wd} (hw : ∀ w, w ∈ ws ↔ w ∈ ws') (ha : ∀ w, w ∈ as ↔ w ∈ as') : Last W ws as k ↔ Last W ws' as' k := by
  unfold Last
  simp only [stg_ord hw ha]
theorem rowsL_ord {W : Wd} (hw : ∀ w, w ∈ ws ↔ w ∈ ws') (ha : ∀ w, w ∈ as ↔ w ∈ as') : rowsL W ws as k = rowsL W ws' as' k := by
  unfold rowsL
  exact List.map_congr_left fun j _ => by rw [stg_ord hw ha]
/-- both agree -/
theorem Told.due {S S' : Sto} {t : Addr} {rs : List Addr} {k' : Nat} (h : MdOf d M) (h1 : Last (wdM M) ws as k) (h2 : Last (wdD d) ws as k') (T : Told S S' t (rowsL (wdM M) ws as k) rs) : Told S S' t (rowsL (wdD d) ws as k') rs := by
  have e := Last.uniq ((last_md h).mp h1) h2
  subst e
  rw [rowsL_md h] at T
  exact T
end
theorem Bx.lsts {b kp c : Addr} {S : Sto} {n : Int} (h : Bx b kp c S n) : ∀ p ∈ [kp, c], ∃ xs, S p = some (.lst xs) := by
  obtain ⟨kept, sm, cnt, hb, hk, hc, r⟩ := h
  intro p hp
  rcases List.mem_cons.mp hp with rfl | hp
  · exact ⟨_, hk⟩
  · rw [List.mem_singleton.mp hp]; exact ⟨_, hc⟩
theorem kp_of0 {X : List Addr} {S S' : Sto} (h : Kp [] S S') : Kp X S S' := fun p o e _ => h p o e (by simp)
def spSmall : FS := ⟨7, fun us S R _ => ∃ (b kp c : Addr) (n : Int) (d : Dr) (ns as : List (List Nat)) (m : Addr) (M : Mo) (gs wa : List (List Nat)) (k0 : Nat), us = [.ref b, drU d, .lst [.lst (ns.map .str), .lst (as.map .str)], .ref m, .lst (gs.map .str), .lst (wa.map .str), rowsU (rowsL (wdD d) gs wa k0)] ∧ Bx b kp c S n ∧ n < 2 ^ 28 ∧ OkDr 60 d ∧ d.count ≤ 5 ∧ HasAll ns as d ∧ ns ≠ [] ∧ ns.length ≤ 3 ∧ as.length ≤ 3 ∧ (∀ w ∈ as, Lo w) ∧
  IsMo S m M ∧ WfMo M ∧ MdOf d M ∧ gs.length ≤ 4 ∧ wa.length ≤ 4 ∧ Last (wdD d) gs wa k0 ∧ ∀ S', Kp [kp, c] S S' → R (.bl true) S'⟩
theorem body_small (G : GV) (mG : GMono G) (h7 : G.fns[7]? = some spStages) (h14 : G.fns[14]? = some spMade) (h20 : G.fns[20]? = some spDue) (h21 : G.fns[21]? = some spIsRows) (h23 : G.fns[23]? = some spOthers) : ∀ us S R RX, us.length = pr_law_small_ones.length → spSmall.sp us S R RX → wCms G (fun x _ S' => RX x S') ir_law_small_ones (startU nm_law_small_ones us) S { nx := fun _ S' => R .non S', rt := R } := by
  rintro us S R RX - ⟨b, kp, c, n, d, ns, as, m, M, gs, wa, k0, rfl, hb, hn, hd, hc5, hA, ne, l1, l2, hlo, hm, hM, hMd, lg, la, hL, k⟩
  have e0 : startU nm_law_small_ones [.ref b, drU d, .lst [.lst (ns.map .str), .lst (as.map .str)], .ref m, .lst (gs.map .str), .lst (wa.map .str), rowsU (rowsL (wdD d) gs wa k0)] = [some (.ref b), some (drU d), some (.lst [.lst (ns.map .str), .lst (as.map .str)]), some (.ref m), some (.lst (gs.map .str)), some (.lst (wa.map .str)), some (rowsU (rowsL (wdD d) gs wa k0)), none, none, none] := rfl
  rw [e0]
  unfold ir_law_small_ones
  have hX := hb.lsts
  have hdm := hd.mono
  refine run_cons ?_
  dsimp! [h7]
  refine ⟨rfl, m, M, .lst [], _, [], wa, rfl, .inl rfl, by simp, .inl rfl, la, hm, hM, fun k1 t rs S1 hl T => ?_⟩
  have hrow0 : L2.atI ((rowsL (wdD d) gs wa k0).map intsU) 0 = some (intsU (rowL d.count (st0 (wdD d) wa))) := by
    rw [at_nat (by omega), List.getElem?_map, Int.toNat_zero, rowsL_get (by omega)]; rfl
  dsimp! [hrow0]
  have T0 := T.due hMd hl last_nil
  have er : rowsL (wdD d) [] wa 0 = [rowL d.count (st0 (wdD d) wa)] := rfl
  rw [er] at T0
  refine T0.ne ?_
  simp_all! []
  refine run_nil (run_cons ?_)
  dsimp! [h7]
  refine ⟨rfl, m, M, _, .lst [], gs, [], rfl, .inl rfl, lg, .inl rfl, by simp, hm.kp0 T.kp, hM, fun k2 t2 rs2 S2 hl2 T2 => ?_⟩
  dsimp! [h20]
  refine ⟨rfl, d, gs, [], rfl, hdm, lg, by simp, fun k3 S3 hl3 kp3 => ?_⟩
  refine ((T2.due hMd hl2 hl3).kps kp3).ne ?_
  simp_all! []
  refine run_nil ?_
  have kk : Kp [] S S3 := (T.kp.trans T2.kp).trans kp3
  refine cut mG (fun ρ' S' => ∃ x7 x8 x9, ρ' = [some (.ref b), some (drU d), some (.lst [.lst (ns.map .str), .lst (as.map .str)]), some (.ref m), some (.lst (gs.map .str)), some (.lst (wa.map .str)), some (rowsU (rowsL (wdD d) gs wa k0)), x7, x8, x9] ∧ Kp [kp, c] S S') ?_ ?_
  · dsimp! [h23]
    refine ⟨rfl, b, kp, c, n, d, ns, as, rfl, hb.kp fun p o e => kk.at e (by simp), hn, hd, hc5, hA, ne, l1, l2, hlo, fun L S4 q1 q2 q3 => ?_⟩
    dsimp only
    refine for_inv mG (fun i ρ' S' => ∃ x7 x8 x9, ρ' = [some (.ref b), some (drU d), some (.lst [.lst (ns.map .str), .lst (as.map .str)]), some (.ref m), some (.lst (gs.map .str)), some (.lst (wa.map .str)), some (rowsU (rowsL (wdD d) gs wa k0)), x7, x8, x9] ∧ Kp [kp, c] S S') ⟨_, _, _, rfl, (kp_of0 kk).trans q3⟩ ?_ ?_
    · rintro i u ρ' S5 hx ⟨x7, x8, x9, rfl, k5⟩
      rw [List.getElem?_map, Option.map_eq_some_iff] at hx
      obtain ⟨d', hd', rfl⟩ := hx
      have hok := q1 d' (List.mem_of_getElem? hd')
      refine ⟨trivial, ?_⟩
      dsimp!
      refine run_cons ?_
      dsimp! [drU, h14]
      refine ⟨rfl, d', rfl, hok, fun a S6 M' hM' hMd' hm' k6 => ?_⟩
      refine run_cons ?_
      dsimp! [h7]
      refine ⟨rfl, a, M', _, _, gs, wa, rfl, .inl rfl, lg, .inl rfl, la, hm', hM', fun k7 t7 rs7 S7 hl7 T7 => ?_⟩
      refine run_cons ?_
      dsimp! [h21]
      refine T7.isRows ?_
      simp_all! [h20]
      refine ⟨d', gs, wa, rfl, hok, lg, la, fun k8 S8 hl8 kp8 => ?_⟩
      refine ((T7.due hMd' hl7 hl8).kps kp8).ne ?_
      simp_all! []
      refine run_nil (run_cons ?_)
      have k08 : Kp [kp, c] S S8 := (k5.trans (kp_of0 k6)).trans (kp_of0 (T7.kp.trans kp8))
      dsimp! [h7]
      refine ⟨rfl, m, M, _, _, gs, wa, rfl, .inl rfl, lg, .inl rfl, la, hm.kp k08 hX, hM, fun k9 t9 rs9 S9 hl9 T9 => ?_⟩
      dsimp!
      refine (T9.due hMd hl9 hL).ne ?_
      simp_all! []
      refine run_nil ?_
      dsimp only
      exact run_nil ⟨_, _, _, rfl, k08.trans (kp_of0 T9.kp)⟩
    · rintro ρ' S5 ⟨x7, x8, x9, rfl, k5⟩
      exact ⟨trivial, _, _, _, rfl, k5⟩
  rintro ρ' S4 ⟨x7, x8, x9, rfl, k4⟩
  refine run_cons ?_
  dsimp!
  exact k S4 k4
end K22
namespace K22
open PySem PySem.Spec PyProof.Rows L2 Mm
mutual
theorem ueq_refl : ∀ u : U, u.data = true → ueq u u = true
  | .non, _ => rfl
  | .bl b, _ => by simp [ueq]
  | .int b, _ => by simp [ueq]
  | .str b, _ => by simp [ueq]
  | .tup xs, h => by simp only [ueq]; exact ueqs_refl xs (by simpa [U.data] using h)
  | .lst xs, h => by simp only [ueq]; exact ueqs_refl xs (by simpa [U.data] using h)
  | .ls xs, h => by simp only [ueq]; exact ueqs_refl xs (by simpa [U.data] using h)
  | .ref _, h => by simp [U.data] at h
  | .dct _ _, h => by simp [U.data] at h
theorem ueqs_refl : ∀ us : List U, datas us = true → ueqs us us = true
  | [], _ => rfl
  | x :: xs, h => by
    simp only [datas, Bool.and_eq_true] at h
    simp only [ueqs, ueq_refl x h.1, ueqs_refl xs h.2]; rfl
end
theorem datas_all : ∀ {us : List U}, (∀ u ∈ us, u.data = true) → datas us = true
  | [], _ => rfl
  | u :: us, h => by simp only [datas, h u List.mem_cons_self, datas_all fun v hv => h v (List.mem_cons_of_mem _ hv)]; rfl
theorem deps_all {n : Nat} : ∀ {us : List U}, (∀ u ∈ us, u.dep ≤ n) → deps us ≤ n
  | [], _ => by simp [deps]
  | u :: us, h => by
    have := h u List.mem_cons_self
    have := deps_all fun v hv => h v (List.mem_cons_of_mem _ hv)
    simp only [deps]; omega
theorem str_data {w : List Nat} (h : Lo w) : (U.str w).data = true := by
  simp only [U.data, List.all_eq_true, decide_eq_true_eq]; exact h
theorem IsWord.lo {w : List Nat} (h : IsWord w) : Lo w := fun c hc => by have := h.low c hc; omega
theorem IsName.lo {w : List Nat} (h : IsName w) : Lo w := by
  rcases h with rfl | h
  · unfold Lo; decide
  · exact h.lo
theorem plain_eqable {M : Mo} (hM : WfMo M) : eqable (plainU M) := by
  have a1 : ∀ u ∈ arrRows M M.nms, u.data = true ∧ u.dep ≤ 1 := by
    intro u hu
    obtain ⟨w, hw, hu⟩ := List.mem_flatMap.mp hu
    obtain ⟨p, _, rfl⟩ := List.mem_map.mp hu
    obtain ⟨rows, hr⟩ := hM.nm w hw
    have := (hM.A _ (getA_mem hr)).1.lo
    refine ⟨?_, by simp [apU, U.dep, deps]⟩
    simp only [apU, U.data, datas, Bool.and_true]
    exact str_data this
  have a2 : ∀ u ∈ mrkRows M M.ats, u.data = true ∧ u.dep ≤ 1 := by
    intro u hu
    obtain ⟨w, hw, hu⟩ := List.mem_flatMap.mp hu
    obtain ⟨p, _, rfl⟩ := List.mem_map.mp hu
    obtain ⟨rows, hr⟩ := hM.at_ w hw
    have := (hM.B _ (getA_mem hr)).1.lo
    refine ⟨?_, by simp [mpU, U.dep, deps]⟩
    simp only [mpU, U.data, datas, Bool.and_true]
    exact str_data this
  have d1 := datas_all fun u hu => (a1 u hu).1
  have d2 := datas_all fun u hu => (a2 u hu).1
  have e1 := deps_all (n := 1) fun u hu => (a1 u hu).2
  have e2 := deps_all (n := 1) fun u hu => (a2 u hu).2
  refine ⟨?_, ?_⟩
  · simp only [plainU, U.data, datas, d1, d2]; rfl
  · simp only [plainU, U.dep, deps]; omega
theorem ne_self {S : Sto} {x : U} {k : Bool → Prop} (hb : x.big = true) (h : eqable x) (hk : k false) : copW .ne x x S k := by
  rw [n_neW]
  exact eq_dat hb h h (by rw [ueq_refl x h.1]; exact hk)
def spLaw : FS := ⟨1, fun us S R _ => ∃ ns : List Int, us = [.ls (ns.map .int)] ∧ ns.length ≤ 63 ∧ ∀ S', R (.bl true) S'⟩
theorem body_law (G : GV) (mG : GMono G) (m2 : HasM G 2 spPlain) (hA : Attrs G) (h7 : G.fns[7]? = some spStages) (h8 : G.fns[8]? = some spBox) (h11 : G.fns[11]? = some spWords) (h12 : G.fns[12]? = some spGiven) (h14 : G.fns[14]? = some spMade) (h17 : G.fns[17]? = some (spDr 300)) (h20 : G.fns[20]? = some spDue) (h21 : G.fns[21]? = some spIsRows) (h24 : G.fns[24]? = some spSmall) : ∀ us S R RX, us.length = pr_law.length → spLaw.sp us S R RX → wCms G (fun x _ S' => RX x S') ir_law (startU nm_law us) S { nx := fun _ S' => R .non S', rt := R } := by
  rintro us S R RX - ⟨sc, rfl, hsc, k⟩
  have e0 : startU nm_law [.ls (sc.map .int)] = [some (.ls (sc.map .int)), none, none, none, none, none, none, none, none, none, none, none] := rfl
  rw [e0]
  unfold ir_law
  refine run_cons ?_
  dsimp! [h8]
  refine ⟨rfl, sc, rfl, hsc, fun b kp c S1 hb1 _ => ?_⟩
  refine run_cons ?_
  dsimp! [h11]
  refine ⟨rfl, b, kp, c, 0, rfl, hb1, by omega, fun ns as S2 ne l1 l2 hN hW hb2 k2 => ?_⟩
  refine run_cons ?_
  dsimp! [h17]
  refine ⟨rfl, b, kp, c, _, ns, as, rfl, hb2, by omega, ne, l1, l2, hN, hW, fun d S3 hd hAll hb3 k3 => ?_⟩
  refine run_cons ?_
  dsimp! [h12]
  refine ⟨rfl, b, kp, c, _, ns, rfl, hb3, by omega, l1, fun w hw => (hN w hw).lo, fun gs S4 lg hg hb4 k4 => ?_⟩
  refine run_cons ?_
  dsimp! [h12]
  refine ⟨rfl, b, kp, c, _, as, rfl, hb4, by omega, l2, fun w hw => (hW w hw).lo, fun wa S5 la ha hb5 k5 => ?_⟩
  refine run_cons ?_
  have hdm := hd.mono
  dsimp! [drU, h14]
  refine ⟨rfl, d, rfl, hdm, fun m S6 M hM hMd hm k6 => ?_⟩
  have hb6 := hb5.kp fun p o e => k6.at e (by simp)
  refine run_cons ?_
  dsimp! [↓e_omt m2]
  obtain ⟨d1, d2, f0, f1, f2⟩ := id hm
  refine ⟨m, _, rfl, f0, IsMo.attrs hA, rfl, m, M, rfl, hm, hM, ?_⟩
  dsimp only
  refine run_cons ?_
  dsimp! [h20]
  refine ⟨rfl, d, gs, wa, rfl, hdm, lg, la, fun k0 S7 hL k7 => ?_⟩
  have hm7 := hm.kp0 k7
  refine run_cons ?_
  dsimp! [h7]
  refine ⟨rfl, m, M, _, _, gs, wa, rfl, .inl rfl, lg, .inl rfl, la, hm7, hM, fun k1 t rs S8 hl T => ?_⟩
  have T := T.due hMd hl hL
  refine run_cons ?_
  dsimp! [h21]
  refine T.isRows ?_
  simp_all! []
  refine T.ne ?_
  simp_all! []
  refine run_nil ?_
  -- told[0].append(len(due)); told[1:] != due[1:]; told.append([0])
  obtain ⟨l0, L', eL⟩ : ∃ l0 L', rowsL (wdD d) gs wa k0 = l0 :: L' := by
    cases e : rowsL (wdD d) gs wa k0 with
    | nil =>
      have := rowsL_len (W := wdD d) (ws := gs) (as := wa) (k := k0)
      rw [e] at this; simp at this
    | cons l0 L' => exact ⟨l0, L', rfl⟩
  have hlen : (rowsL (wdD d) gs wa k0).length ≤ 64 := by
    rw [rowsL_len]
    have := stg_low (W := wdD d) (ws := gs) (as := wa) hd.c1 hL.1
    have e : (wdD d).n = d.count := rfl
    have := hd.c2
    omega
  have hl0 : l0.length ≤ 64 := by
    have := rowsL_get (W := wdD d) (ws := gs) (as := wa) (k := k0) (j := 0) (by omega)
    rw [eL] at this
    cases this
    simp only [rowL, List.length_map, List.length_range]
    exact hd.c2
  obtain ⟨r0, rs', rfl⟩ : ∃ r0 rs', rs = r0 :: rs' := by
    cases rs with
    | nil =>
      have := T.ln
      rw [eL] at this; simp at this
    | cons r0 rs' => exact ⟨r0, rs', rfl⟩
  have T' := T
  rw [eL] at T'
  have t1 := T'.t1
  have rr0 := T'.r1 0 r0 l0 rfl rfl
  have ndp := List.nodup_cons.mp T'.nd
  have nd2 := List.nodup_cons.mp ndp.2
  have ntr : t ≠ r0 := fun z => ndp.1 (by rw [z]; exact List.mem_cons_self)
  refine run_cons ?_
  dsimp! [t1, rr0, List.length_map]
  refine ⟨by rw [sizeLine_eq]; omega, ?_⟩
  refine run_cons ?_
  dsimp! [Sto.put_ne ntr, t1]
  rw [eL]
  dsimp!
  rw [n_neW]
  refine eq_sn rfl (Sn.lst (sns_rows (L := L') (by have := T'.ln; simpa using this) fun j r l e1 e2 => ?_)) (Sn.data (rows_data L')) (rows_eqable L') (rows_eqable L') ?_
  · have nr : r ≠ r0 := fun z => nd2.1 (by rw [← z]; exact List.mem_of_getElem? e1)
    rw [Sto.put_ne nr]
    exact T'.r1 (j + 1) r l e1 e2
  rw [ueq_rows]
  simp_all! []
  refine run_nil (run_cons ?_)
  dsimp! [Sto.put_ne ntr, t1, List.length_map]
  refine ⟨by have := T'.ln; simp at this; rw [eL] at hlen; simp at hlen; rw [sizeLine_eq]; omega, ?_⟩
  rw [← eL]
  refine run_cons ?_
  dsimp!
  refine run_cons ?_
  dsimp!
  refine run_cons ?_
  dsimp! [h7]
  have k9 : ∀ {o o' : Ob}, Kp [] S7 ((S8.put r0 o).put t o') := (T.kp.put (.inl (T.r0 r0 (by simp)))).put (.inl T.t0)
  refine ⟨rfl, m, M, _, _, gs, wa, rfl, .inl rfl, lg, .inl rfl, la, hm7.kp0 k9, hM, fun k2 t2 rs2 S10 hl2 T2 => ?_⟩
  have k10 : Kp [] S7 S10 := k9.trans T2.kp
  have T2 := T2.due hMd hl2 hL
  refine run_cons ?_
  dsimp! [h21]
  refine T2.isRows ?_
  simp_all! []
  refine T2.ne ?_
  simp_all! []
  refine ne_self rfl (strs_eqable hg) ?_
  simp_all! []
  refine ne_self rfl (strs_eqable ha) ?_
  simp_all! []
  refine run_nil (run_cons ?_)
  dsimp! [h7, revW, lisOf, lstOf, n_al0]
  refine ⟨rfl, m, M, _, _, gs.reverse, wa.reverse, rfl, .inr (by rw [List.map_reverse]), by simpa using lg, .inr (by rw [List.map_reverse]), by simpa using la, hm7.kp0 k10, hM, fun k3 t3 rs3 S11 hl3 T3 => ?_⟩
  have hl3' : Last (wdM M) gs wa k3 := (last_ord (fun w => List.mem_reverse) (fun w => List.mem_reverse)).mp hl3
  rw [rowsL_ord (ws' := gs) (as' := wa) (fun w => List.mem_reverse) (fun w => List.mem_reverse)] at T3
  have T3 := T3.due hMd hl3' hL
  have k11 : Kp [] S7 S11 := k10.trans T3.kp
  refine run_cons ?_
  dsimp! [h21]
  refine T3.isRows ?_
  simp_all! []
  refine T3.ne ?_
  simp_all! []
  refine run_nil ?_
  have fin : ∀ S' D, D.rt = R → IsMo S' m M → wCms G (fun x _ S' => RX x S') (.cons (.ret (.cmp .eq (.omt 0 2 (.var 6) .nil) (.var 7))) .nil) [some (.ls (sc.map .int)), some (.ref b), some (.lst [.lst (ns.map .str), .lst (as.map .str)]), some (drU d), some (.lst (gs.map .str)), some (.lst (wa.map .str)), some (.ref m), some (plainU M), some (rowsU (rowsL (wdD d) gs wa k0)), some (.ref t3), some (.lst (gs.map .str)), some (.lst (wa.map .str))] S' D := by
    rintro S' D rfl hm'
    refine run_cons ?_
    dsimp! [↓e_omt m2]
    obtain ⟨d1, d2, f0, f1, f2⟩ := id hm'
    refine ⟨m, _, rfl, f0, IsMo.attrs hA, rfl, m, M, rfl, hm', hM, ?_⟩
    dsimp only
    rw [n_eqW]
    have pe := plain_eqable hM
    refine eq_dat rfl pe pe ?_
    rw [ueq_refl _ pe.1]
    exact k S'
  refine run_cons ?_
  dsimp! [drU]
  refine ite2 (fun h5 => ?_) (fun h5 => ?_)
  · have hc5 : d.count ≤ 5 := by omega
    dsimp! [h24]
    refine ⟨rfl, b, kp, c, _, d, ns, as, m, M, gs, wa, k0, rfl, (hb6.kp fun p o e => (k7.trans k11).at e (by simp)), by omega, hd, hc5, hAll, ne, l1, l2, fun w hw => (hW w hw).lo, hm7.kp0 k11, hM, hMd, lg, la, hL, fun S12 k12 => ?_⟩
    have hX := (hb6.kp fun p o e => (k7.trans k11).at e (by simp)).lsts
    have hm12 := (hm7.kp0 k11).kp k12 hX
    simp_all! []
    exact run_nil (fin S12 _ rfl hm12)
  · exact run_nil (fin S11 _ rfl (hm7.kp0 k11))
end K22
namespace K22
open PySem PySem.Spec PyProof.Rows L2 Mm
theorem is_name_mono' : SpMono (spIsName).sp := by
  intro us S R R' RX RX' hx h hs
  repeat (obtain ⟨a, hs⟩ := hs; refine ⟨a, ?_⟩)
  first | exact h _ _ hs | (intros; apply h; apply hs <;> assumption)
theorem pairs_mono' : SpMono (spPairs).sp := by
  intro us S R R' RX RX' hx h hs
  repeat (obtain ⟨a, hs⟩ := hs; refine ⟨a, ?_⟩)
  first | exact h _ _ hs | (intros; apply h; apply hs <;> assumption)
theorem worlds_mono' : SpMono (spWorlds).sp := by
  intro us S R R' RX RX' hx h hs
  repeat (obtain ⟨a, hs⟩ := hs; refine ⟨a, ?_⟩)
  first | exact h _ _ hs | (intros; apply h; apply hs <;> assumption)
theorem marks_mono' : SpMono (spMarks).sp := by
  intro us S R R' RX RX' hx h hs
  repeat (obtain ⟨a, hs⟩ := hs; refine ⟨a, ?_⟩)
  first | exact h _ _ hs | (intros; apply h; apply hs <;> assumption)
theorem sight_mono' : SpMono (spSight).sp := by
  intro us S R R' RX RX' hx h hs
  repeat (obtain ⟨a, hs⟩ := hs; refine ⟨a, ?_⟩)
  first | exact h _ _ hs | (intros; apply h; apply hs <;> assumption)
theorem numbered_mono' : SpMono (spNum).sp := by
  intro us S R R' RX RX' hx h hs
  repeat (obtain ⟨a, hs⟩ := hs; refine ⟨a, ?_⟩)
  first | exact h _ _ hs | (intros; apply h; apply hs <;> assumption)
theorem next_mono' : SpMono (spNext).sp := by
  intro us S R R' RX RX' hx h hs
  repeat (obtain ⟨a, hs⟩ := hs; refine ⟨a, ?_⟩)
  first | exact h _ _ hs | (intros; apply h; apply hs <;> assumption)
theorem stages_mono' : SpMono (spStages).sp := by
  intro us S R R' RX RX' hx h hs
  repeat (obtain ⟨a, hs⟩ := hs; refine ⟨a, ?_⟩)
  first | exact h _ _ hs | (intros; apply h; apply hs <;> assumption)
theorem box_mono' : SpMono (spBox).sp := by
  intro us S R R' RX RX' hx h hs
  repeat (obtain ⟨a, hs⟩ := hs; refine ⟨a, ?_⟩)
  first | exact h _ _ hs | (intros; apply h; apply hs <;> assumption)
theorem take_mono' : SpMono (spTake).sp := by
  intro us S R R' RX RX' hx h hs
  repeat (obtain ⟨a, hs⟩ := hs; refine ⟨a, ?_⟩)
  first | exact h _ _ hs | (intros; apply h; apply hs <;> assumption)
theorem word_mono' : SpMono (spWord).sp := by
  intro us S R R' RX RX' hx h hs
  repeat (obtain ⟨a, hs⟩ := hs; refine ⟨a, ?_⟩)
  first | exact h _ _ hs | (intros; apply h; apply hs <;> assumption)
theorem words_mono' : SpMono (spWords).sp := by
  intro us S R R' RX RX' hx h hs
  repeat (obtain ⟨a, hs⟩ := hs; refine ⟨a, ?_⟩)
  first | exact h _ _ hs | (intros; apply h; apply hs <;> assumption)
theorem given_mono' : SpMono (spGiven).sp := by
  intro us S R R' RX RX' hx h hs
  repeat (obtain ⟨a, hs⟩ := hs; refine ⟨a, ?_⟩)
  first | exact h _ _ hs | (intros; apply h; apply hs <;> assumption)
theorem rows_mono' : SpMono (spRows).sp := by
  intro us S R R' RX RX' hx h hs
  repeat (obtain ⟨a, hs⟩ := hs; refine ⟨a, ?_⟩)
  first | exact h _ _ hs | (intros; apply h; apply hs <;> assumption)
theorem made_mono' : SpMono (spMade).sp := by
  intro us S R R' RX RX' hx h hs
  repeat (obtain ⟨a, hs⟩ := hs; refine ⟨a, ?_⟩)
  first | exact h _ _ hs | (intros; apply h; apply hs <;> assumption)
theorem chain_mono' : SpMono (spDr 200).sp := by
  intro us S R R' RX RX' hx h hs
  repeat (obtain ⟨a, hs⟩ := hs; refine ⟨a, ?_⟩)
  first | exact h _ _ hs | (intros; apply h; apply hs <;> assumption)
theorem broad_mono' : SpMono (spDr 200).sp := by
  intro us S R R' RX RX' hx h hs
  repeat (obtain ⟨a, hs⟩ := hs; refine ⟨a, ?_⟩)
  first | exact h _ _ hs | (intros; apply h; apply hs <;> assumption)
theorem drawn_mono' : SpMono (spDr 300).sp := by
  intro us S R R' RX RX' hx h hs
  repeat (obtain ⟨a, hs⟩ := hs; refine ⟨a, ?_⟩)
  first | exact h _ _ hs | (intros; apply h; apply hs <;> assumption)
theorem lnumbered_mono' : SpMono (spLNum).sp := by
  intro us S R R' RX RX' hx h hs
  repeat (obtain ⟨a, hs⟩ := hs; refine ⟨a, ?_⟩)
  first | exact h _ _ hs | (intros; apply h; apply hs <;> assumption)
theorem looks_mono' : SpMono (spLooks).sp := by
  intro us S R R' RX RX' hx h hs
  repeat (obtain ⟨a, hs⟩ := hs; refine ⟨a, ?_⟩)
  first | exact h _ _ hs | (intros; apply h; apply hs <;> assumption)
theorem due_mono' : SpMono (spDue).sp := by
  intro us S R R' RX RX' hx h hs
  repeat (obtain ⟨a, hs⟩ := hs; refine ⟨a, ?_⟩)
  first | exact h _ _ hs | (intros; apply h; apply hs <;> assumption)
theorem is_rows_mono' : SpMono (spIsRows).sp := by
  intro us S R R' RX RX' hx h hs
  repeat (obtain ⟨a, hs⟩ := hs; refine ⟨a, ?_⟩)
  first | exact h _ _ hs | (intros; apply h; apply hs <;> assumption)
theorem turned_mono' : SpMono (spTurned).sp := by
  intro us S R R' RX RX' hx h hs
  repeat (obtain ⟨a, hs⟩ := hs; refine ⟨a, ?_⟩)
  first | exact h _ _ hs | (intros; apply h; apply hs <;> assumption)
theorem others_mono' : SpMono (spOthers).sp := by
  intro us S R R' RX RX' hx h hs
  repeat (obtain ⟨a, hs⟩ := hs; refine ⟨a, ?_⟩)
  first | exact h _ _ hs | (intros; apply h; apply hs <;> assumption)
theorem small_mono' : SpMono (spSmall).sp := by
  intro us S R R' RX RX' hx h hs
  repeat (obtain ⟨a, hs⟩ := hs; refine ⟨a, ?_⟩)
  first | exact h _ _ hs | (intros; apply h; apply hs <;> assumption)
theorem init_mono' : SpMono (spInit).sp := by
  intro us S R R' RX RX' hx h hs
  repeat (obtain ⟨a, hs⟩ := hs; refine ⟨a, ?_⟩)
  first | exact h _ _ hs | (intros; apply h; apply hs <;> assumption)
theorem arrows_mono' : SpMono (spArrows).sp := by
  intro us S R R' RX RX' hx h hs
  repeat (obtain ⟨a, hs⟩ := hs; refine ⟨a, ?_⟩)
  first | exact h _ _ hs | (intros; apply h; apply hs <;> assumption)
theorem marked_mono' : SpMono (spMarked).sp := by
  intro us S R R' RX RX' hx h hs
  repeat (obtain ⟨a, hs⟩ := hs; refine ⟨a, ?_⟩)
  first | exact h _ _ hs | (intros; apply h; apply hs <;> assumption)
theorem plain_mono' : SpMono (spPlain).sp := by
  intro us S R R' RX RX' hx h hs
  repeat (obtain ⟨a, hs⟩ := hs; refine ⟨a, ?_⟩)
  first | exact h _ _ hs | (intros; apply h; apply hs <;> assumption)
def globsU : List U := [.tup (resv.map .str), .int 12]
def flNames : List Str := ["world_count", "_arrows", "_marks", "names", "atoms"]
def atU (c : Nat) (f : Str) : Bool := c == 0 && flNames.contains f
def GG (fs : List FS) (cs : List ClsV) : GV := { fns := fs, globs := globsU, cls := cs, attr := atU }
theorem attrs {fs : List FS} {cs : List ClsV} : Attrs (GG fs cs) := ⟨(by decide +kernel : atU 0 "world_count" = true), (by decide +kernel : atU 0 "_arrows" = true), (by decide +kernel : atU 0 "_marks" = true), (by decide +kernel : atU 0 "names" = true), (by decide +kernel : atU 0 "atoms" = true)⟩
theorem all_mk {P : Program} {w : World} {K : PySem.W.Frag} {h : Heap} {mg : Str → Option Value} {fa : Addr}
    {C : Addr}
    {f_is_name : Addr} {od_is_name an_is_name : Option Addr} {sl_is_name : Array (Option Value)} {oc_is_name kV_is_name dc_is_name pm_is_name cd_is_name ct_is_name : Value}
    {f__rows_of_pairs : Addr} {od__rows_of_pairs an__rows_of_pairs : Option Addr} {sl__rows_of_pairs : Array (Option Value)} {oc__rows_of_pairs kV__rows_of_pairs dc__rows_of_pairs pm__rows_of_pairs cd__rows_of_pairs ct__rows_of_pairs : Value}
    {f__row_of_worlds : Addr} {od__row_of_worlds an__row_of_worlds : Option Addr} {sl__row_of_worlds : Array (Option Value)} {oc__row_of_worlds kV__row_of_worlds dc__row_of_worlds pm__row_of_worlds cd__row_of_worlds ct__row_of_worlds : Value}
    {f_mark_rows : Addr} {od_mark_rows an_mark_rows : Option Addr} {sl_mark_rows : Array (Option Value)} {oc_mark_rows kV_mark_rows dc_mark_rows pm_mark_rows cd_mark_rows ct_mark_rows : Value}
    {f_sight_rows : Addr} {od_sight_rows an_sight_rows : Option Addr} {sl_sight_rows : Array (Option Value)} {oc_sight_rows kV_sight_rows dc_sight_rows pm_sight_rows cd_sight_rows ct_sight_rows : Value}
    {f__numbered : Addr} {od__numbered an__numbered : Option Addr} {sl__numbered : Array (Option Value)} {oc__numbered kV__numbered dc__numbered pm__numbered cd__numbered ct__numbered : Value}
    {f_next_numbers : Addr} {od_next_numbers an_next_numbers : Option Addr} {sl_next_numbers : Array (Option Value)} {oc_next_numbers kV_next_numbers dc_next_numbers pm_next_numbers cd_next_numbers ct_next_numbers : Value}
    {f_stages : Addr} {od_stages an_stages : Option Addr} {sl_stages : Array (Option Value)} {oc_stages kV_stages dc_stages pm_stages cd_stages ct_stages : Value}
    {f__law_box : Addr} {od__law_box an__law_box : Option Addr} {sl__law_box : Array (Option Value)} {oc__law_box kV__law_box dc__law_box pm__law_box cd__law_box ct__law_box : Value}
    {f__law_take : Addr} {od__law_take an__law_take : Option Addr} {sl__law_take : Array (Option Value)} {oc__law_take kV__law_take dc__law_take pm__law_take cd__law_take ct__law_take : Value}
    {f__law_word : Addr} {od__law_word an__law_word : Option Addr} {sl__law_word : Array (Option Value)} {oc__law_word kV__law_word dc__law_word pm__law_word cd__law_word ct__law_word : Value}
    {f__law_words : Addr} {od__law_words an__law_words : Option Addr} {sl__law_words : Array (Option Value)} {oc__law_words kV__law_words dc__law_words pm__law_words cd__law_words ct__law_words : Value}
    {f__law_given : Addr} {od__law_given an__law_given : Option Addr} {sl__law_given : Array (Option Value)} {oc__law_given kV__law_given dc__law_given pm__law_given cd__law_given ct__law_given : Value}
    {f__law_rows : Addr} {od__law_rows an__law_rows : Option Addr} {sl__law_rows : Array (Option Value)} {oc__law_rows kV__law_rows dc__law_rows pm__law_rows cd__law_rows ct__law_rows : Value}
    {f__law_made : Addr} {od__law_made an__law_made : Option Addr} {sl__law_made : Array (Option Value)} {oc__law_made kV__law_made dc__law_made pm__law_made cd__law_made ct__law_made : Value}
    {f__law_chain : Addr} {od__law_chain an__law_chain : Option Addr} {sl__law_chain : Array (Option Value)} {oc__law_chain kV__law_chain dc__law_chain pm__law_chain cd__law_chain ct__law_chain : Value}
    {f__law_broad : Addr} {od__law_broad an__law_broad : Option Addr} {sl__law_broad : Array (Option Value)} {oc__law_broad kV__law_broad dc__law_broad pm__law_broad cd__law_broad ct__law_broad : Value}
    {f__law_drawn : Addr} {od__law_drawn an__law_drawn : Option Addr} {sl__law_drawn : Array (Option Value)} {oc__law_drawn kV__law_drawn dc__law_drawn pm__law_drawn cd__law_drawn ct__law_drawn : Value}
    {f__law_numbered : Addr} {od__law_numbered an__law_numbered : Option Addr} {sl__law_numbered : Array (Option Value)} {oc__law_numbered kV__law_numbered dc__law_numbered pm__law_numbered cd__law_numbered ct__law_numbered : Value}
    {f__law_looks : Addr} {od__law_looks an__law_looks : Option Addr} {sl__law_looks : Array (Option Value)} {oc__law_looks kV__law_looks dc__law_looks pm__law_looks cd__law_looks ct__law_looks : Value}
    {f__law_due : Addr} {od__law_due an__law_due : Option Addr} {sl__law_due : Array (Option Value)} {oc__law_due kV__law_due dc__law_due pm__law_due cd__law_due ct__law_due : Value}
    {f__law_is_rows : Addr} {od__law_is_rows an__law_is_rows : Option Addr} {sl__law_is_rows : Array (Option Value)} {oc__law_is_rows kV__law_is_rows dc__law_is_rows pm__law_is_rows cd__law_is_rows ct__law_is_rows : Value}
    {f__law_turned : Addr} {od__law_turned an__law_turned : Option Addr} {sl__law_turned : Array (Option Value)} {oc__law_turned kV__law_turned dc__law_turned pm__law_turned cd__law_turned ct__law_turned : Value}
    {f__law_others : Addr} {od__law_others an__law_others : Option Addr} {sl__law_others : Array (Option Value)} {oc__law_others kV__law_others dc__law_others pm__law_others cd__law_others ct__law_others : Value}
    {f__law_small_ones : Addr} {od__law_small_ones an__law_small_ones : Option Addr} {sl__law_small_ones : Array (Option Value)} {oc__law_small_ones kV__law_small_ones dc__law_small_ones pm__law_small_ones cd__law_small_ones ct__law_small_ones : Value}
    {f_law : Addr} {od_law an_law : Option Addr} {sl_law : Array (Option Value)} {oc_law kV_law dc_law pm_law cd_law ct_law : Value}
    {f_m___init__ : Addr} {od_m___init__ an_m___init__ : Option Addr} {sl_m___init__ : Array (Option Value)} {oc_m___init__ kV_m___init__ dc_m___init__ pm_m___init__ cd_m___init__ ct_m___init__ : Value}
    {f_m_arrows : Addr} {od_m_arrows an_m_arrows : Option Addr} {sl_m_arrows : Array (Option Value)} {oc_m_arrows kV_m_arrows dc_m_arrows pm_m_arrows cd_m_arrows ct_m_arrows : Value}
    {f_m_marked : Addr} {od_m_marked an_m_marked : Option Addr} {sl_m_marked : Array (Option Value)} {oc_m_marked kV_m_marked dc_m_marked pm_m_marked cd_m_marked ct_m_marked : Value}
    {f_m_plain : Addr} {od_m_plain an_m_plain : Option Addr} {sl_m_plain : Array (Option Value)} {oc_m_plain kV_m_plain dc_m_plain pm_m_plain cd_m_plain ct_m_plain : Value}
    {g_RESERVED : Addr} {d_RESERVED : Option Addr} {n_RESERVED : Nat} {s_RESERVED : Array (Option Value)} {t_RESERVED_0 t_RESERVED_1 t_RESERVED_2 t_RESERVED_3 t_RESERVED_4 t_RESERVED_5 t_RESERVED_6 t_RESERVED_7 : Nat}
    {t__LONGEST_NAME : Nat}
    (X : K.In h) (Gn : h.Ns mainGlobals mg) (hfa : mg "law" = some (.ref fa))
    (aC : PySem.W.nsIn K mainGlobals "Model" = some (some (.ref C)))
    (a_is_name : PySem.W.nsIn K mainGlobals "is_name" = some (some (.ref f_is_name)))
    (l_is_name : K.lookup f_is_name = some ⟨oc_is_name, od_is_name, .func (PySem.W.fnOf "is_name" "is_name" (defArgs st_is_name) (defBody st_is_name) (defScope st_is_name) .none kV_is_name dc_is_name pm_is_name an_is_name cd_is_name ct_is_name), sl_is_name⟩)
    (c_is_name : PySem.W.codeIn K cd_is_name "is_name" = true)
    (k_is_name : PySem.W.keepIn K (.ref f_is_name) = true)
    (a__rows_of_pairs : PySem.W.nsIn K mainGlobals "_rows_of_pairs" = some (some (.ref f__rows_of_pairs)))
    (l__rows_of_pairs : K.lookup f__rows_of_pairs = some ⟨oc__rows_of_pairs, od__rows_of_pairs, .func (PySem.W.fnOf "_rows_of_pairs" "_rows_of_pairs" (defArgs st_rows_of_pairs) (defBody st_rows_of_pairs) (defScope st_rows_of_pairs) .none kV__rows_of_pairs dc__rows_of_pairs pm__rows_of_pairs an__rows_of_pairs cd__rows_of_pairs ct__rows_of_pairs), sl__rows_of_pairs⟩)
    (c__rows_of_pairs : PySem.W.codeIn K cd__rows_of_pairs "_rows_of_pairs" = true)
    (k__rows_of_pairs : PySem.W.keepIn K (.ref f__rows_of_pairs) = true)
    (a__row_of_worlds : PySem.W.nsIn K mainGlobals "_row_of_worlds" = some (some (.ref f__row_of_worlds)))
    (l__row_of_worlds : K.lookup f__row_of_worlds = some ⟨oc__row_of_worlds, od__row_of_worlds, .func (PySem.W.fnOf "_row_of_worlds" "_row_of_worlds" (defArgs st_row_of_worlds) (defBody st_row_of_worlds) (defScope st_row_of_worlds) .none kV__row_of_worlds dc__row_of_worlds pm__row_of_worlds an__row_of_worlds cd__row_of_worlds ct__row_of_worlds), sl__row_of_worlds⟩)
    (c__row_of_worlds : PySem.W.codeIn K cd__row_of_worlds "_row_of_worlds" = true)
    (k__row_of_worlds : PySem.W.keepIn K (.ref f__row_of_worlds) = true)
    (a_mark_rows : PySem.W.nsIn K mainGlobals "mark_rows" = some (some (.ref f_mark_rows)))
    (l_mark_rows : K.lookup f_mark_rows = some ⟨oc_mark_rows, od_mark_rows, .func (PySem.W.fnOf "mark_rows" "mark_rows" (defArgs st_mark_rows) (defBody st_mark_rows) (defScope st_mark_rows) .none kV_mark_rows dc_mark_rows pm_mark_rows an_mark_rows cd_mark_rows ct_mark_rows), sl_mark_rows⟩)
    (c_mark_rows : PySem.W.codeIn K cd_mark_rows "mark_rows" = true)
    (k_mark_rows : PySem.W.keepIn K (.ref f_mark_rows) = true)
    (a_sight_rows : PySem.W.nsIn K mainGlobals "sight_rows" = some (some (.ref f_sight_rows)))
    (l_sight_rows : K.lookup f_sight_rows = some ⟨oc_sight_rows, od_sight_rows, .func (PySem.W.fnOf "sight_rows" "sight_rows" (defArgs st_sight_rows) (defBody st_sight_rows) (defScope st_sight_rows) .none kV_sight_rows dc_sight_rows pm_sight_rows an_sight_rows cd_sight_rows ct_sight_rows), sl_sight_rows⟩)
    (c_sight_rows : PySem.W.codeIn K cd_sight_rows "sight_rows" = true)
    (k_sight_rows : PySem.W.keepIn K (.ref f_sight_rows) = true)
    (a__numbered : PySem.W.nsIn K mainGlobals "_numbered" = some (some (.ref f__numbered)))
    (l__numbered : K.lookup f__numbered = some ⟨oc__numbered, od__numbered, .func (PySem.W.fnOf "_numbered" "_numbered" (defArgs st_numbered) (defBody st_numbered) (defScope st_numbered) .none kV__numbered dc__numbered pm__numbered an__numbered cd__numbered ct__numbered), sl__numbered⟩)
    (c__numbered : PySem.W.codeIn K cd__numbered "_numbered" = true)
    (k__numbered : PySem.W.keepIn K (.ref f__numbered) = true)
    (a_next_numbers : PySem.W.nsIn K mainGlobals "next_numbers" = some (some (.ref f_next_numbers)))
    (l_next_numbers : K.lookup f_next_numbers = some ⟨oc_next_numbers, od_next_numbers, .func (PySem.W.fnOf "next_numbers" "next_numbers" (defArgs st_next_numbers) (defBody st_next_numbers) (defScope st_next_numbers) .none kV_next_numbers dc_next_numbers pm_next_numbers an_next_numbers cd_next_numbers ct_next_numbers), sl_next_numbers⟩)
    (c_next_numbers : PySem.W.codeIn K cd_next_numbers "next_numbers" = true)
    (k_next_numbers : PySem.W.keepIn K (.ref f_next_numbers) = true)
    (a_stages : PySem.W.nsIn K mainGlobals "stages" = some (some (.ref f_stages)))
    (l_stages : K.lookup f_stages = some ⟨oc_stages, od_stages, .func (PySem.W.fnOf "stages" "stages" (defArgs st_stages) (defBody st_stages) (defScope st_stages) .none kV_stages dc_stages pm_stages an_stages cd_stages ct_stages), sl_stages⟩)
    (c_stages : PySem.W.codeIn K cd_stages "stages" = true)
    (k_stages : PySem.W.keepIn K (.ref f_stages) = true)
    (a__law_box : PySem.W.nsIn K mainGlobals "_law_box" = some (some (.ref f__law_box)))
    (l__law_box : K.lookup f__law_box = some ⟨oc__law_box, od__law_box, .func (PySem.W.fnOf "_law_box" "_law_box" (defArgs st_law_box) (defBody st_law_box) (defScope st_law_box) .none kV__law_box dc__law_box pm__law_box an__law_box cd__law_box ct__law_box), sl__law_box⟩)
    (c__law_box : PySem.W.codeIn K cd__law_box "_law_box" = true)
    (k__law_box : PySem.W.keepIn K (.ref f__law_box) = true)
    (a__law_take : PySem.W.nsIn K mainGlobals "_law_take" = some (some (.ref f__law_take)))
    (l__law_take : K.lookup f__law_take = some ⟨oc__law_take, od__law_take, .func (PySem.W.fnOf "_law_take" "_law_take" (defArgs st_law_take) (defBody st_law_take) (defScope st_law_take) .none kV__law_take dc__law_take pm__law_take an__law_take cd__law_take ct__law_take), sl__law_take⟩)
    (c__law_take : PySem.W.codeIn K cd__law_take "_law_take" = true)
    (k__law_take : PySem.W.keepIn K (.ref f__law_take) = true)
    (a__law_word : PySem.W.nsIn K mainGlobals "_law_word" = some (some (.ref f__law_word)))
    (l__law_word : K.lookup f__law_word = some ⟨oc__law_word, od__law_word, .func (PySem.W.fnOf "_law_word" "_law_word" (defArgs st_law_word) (defBody st_law_word) (defScope st_law_word) .none kV__law_word dc__law_word pm__law_word an__law_word cd__law_word ct__law_word), sl__law_word⟩)
    (c__law_word : PySem.W.codeIn K cd__law_word "_law_word" = true)
    (k__law_word : PySem.W.keepIn K (.ref f__law_word) = true)
    (a__law_words : PySem.W.nsIn K mainGlobals "_law_words" = some (some (.ref f__law_words)))
    (l__law_words : K.lookup f__law_words = some ⟨oc__law_words, od__law_words, .func (PySem.W.fnOf "_law_words" "_law_words" (defArgs st_law_words) (defBody st_law_words) (defScope st_law_words) .none kV__law_words dc__law_words pm__law_words an__law_words cd__law_words ct__law_words), sl__law_words⟩)
    (c__law_words : PySem.W.codeIn K cd__law_words "_law_words" = true)
    (k__law_words : PySem.W.keepIn K (.ref f__law_words) = true)
    (a__law_given : PySem.W.nsIn K mainGlobals "_law_given" = some (some (.ref f__law_given)))
    (l__law_given : K.lookup f__law_given = some ⟨oc__law_given, od__law_given, .func (PySem.W.fnOf "_law_given" "_law_given" (defArgs st_law_given) (defBody st_law_given) (defScope st_law_given) .none kV__law_given dc__law_given pm__law_given an__law_given cd__law_given ct__law_given), sl__law_given⟩)
    (c__law_given : PySem.W.codeIn K cd__law_given "_law_given" = true)
    (k__law_given : PySem.W.keepIn K (.ref f__law_given) = true)
    (a__law_rows : PySem.W.nsIn K mainGlobals "_law_rows" = some (some (.ref f__law_rows)))
    (l__law_rows : K.lookup f__law_rows = some ⟨oc__law_rows, od__law_rows, .func (PySem.W.fnOf "_law_rows" "_law_rows" (defArgs st_law_rows) (defBody st_law_rows) (defScope st_law_rows) .none kV__law_rows dc__law_rows pm__law_rows an__law_rows cd__law_rows ct__law_rows), sl__law_rows⟩)
    (c__law_rows : PySem.W.codeIn K cd__law_rows "_law_rows" = true)
    (k__law_rows : PySem.W.keepIn K (.ref f__law_rows) = true)
    (a__law_made : PySem.W.nsIn K mainGlobals "_law_made" = some (some (.ref f__law_made)))
    (l__law_made : K.lookup f__law_made = some ⟨oc__law_made, od__law_made, .func (PySem.W.fnOf "_law_made" "_law_made" (defArgs st_law_made) (defBody st_law_made) (defScope st_law_made) .none kV__law_made dc__law_made pm__law_made an__law_made cd__law_made ct__law_made), sl__law_made⟩)
    (c__law_made : PySem.W.codeIn K cd__law_made "_law_made" = true)
    (k__law_made : PySem.W.keepIn K (.ref f__law_made) = true)
    (a__law_chain : PySem.W.nsIn K mainGlobals "_law_chain" = some (some (.ref f__law_chain)))
    (l__law_chain : K.lookup f__law_chain = some ⟨oc__law_chain, od__law_chain, .func (PySem.W.fnOf "_law_chain" "_law_chain" (defArgs st_law_chain) (defBody st_law_chain) (defScope st_law_chain) .none kV__law_chain dc__law_chain pm__law_chain an__law_chain cd__law_chain ct__law_chain), sl__law_chain⟩)
    (c__law_chain : PySem.W.codeIn K cd__law_chain "_law_chain" = true)
    (k__law_chain : PySem.W.keepIn K (.ref f__law_chain) = true)
    (a__law_broad : PySem.W.nsIn K mainGlobals "_law_broad" = some (some (.ref f__law_broad)))
    (l__law_broad : K.lookup f__law_broad = some ⟨oc__law_broad, od__law_broad, .func (PySem.W.fnOf "_law_broad" "_law_broad" (defArgs st_law_broad) (defBody st_law_broad) (defScope st_law_broad) .none kV__law_broad dc__law_broad pm__law_broad an__law_broad cd__law_broad ct__law_broad), sl__law_broad⟩)
    (c__law_broad : PySem.W.codeIn K cd__law_broad "_law_broad" = true)
    (k__law_broad : PySem.W.keepIn K (.ref f__law_broad) = true)
    (a__law_drawn : PySem.W.nsIn K mainGlobals "_law_drawn" = some (some (.ref f__law_drawn)))
    (l__law_drawn : K.lookup f__law_drawn = some ⟨oc__law_drawn, od__law_drawn, .func (PySem.W.fnOf "_law_drawn" "_law_drawn" (defArgs st_law_drawn) (defBody st_law_drawn) (defScope st_law_drawn) .none kV__law_drawn dc__law_drawn pm__law_drawn an__law_drawn cd__law_drawn ct__law_drawn), sl__law_drawn⟩)
    (c__law_drawn : PySem.W.codeIn K cd__law_drawn "_law_drawn" = true)
    (k__law_drawn : PySem.W.keepIn K (.ref f__law_drawn) = true)
    (a__law_numbered : PySem.W.nsIn K mainGlobals "_law_numbered" = some (some (.ref f__law_numbered)))
    (l__law_numbered : K.lookup f__law_numbered = some ⟨oc__law_numbered, od__law_numbered, .func (PySem.W.fnOf "_law_numbered" "_law_numbered" (defArgs st_law_numbered) (defBody st_law_numbered) (defScope st_law_numbered) .none kV__law_numbered dc__law_numbered pm__law_numbered an__law_numbered cd__law_numbered ct__law_numbered), sl__law_numbered⟩)
    (c__law_numbered : PySem.W.codeIn K cd__law_numbered "_law_numbered" = true)
    (k__law_numbered : PySem.W.keepIn K (.ref f__law_numbered) = true)
    (a__law_looks : PySem.W.nsIn K mainGlobals "_law_looks" = some (some (.ref f__law_looks)))
    (l__law_looks : K.lookup f__law_looks = some ⟨oc__law_looks, od__law_looks, .func (PySem.W.fnOf "_law_looks" "_law_looks" (defArgs st_law_looks) (defBody st_law_looks) (defScope st_law_looks) .none kV__law_looks dc__law_looks pm__law_looks an__law_looks cd__law_looks ct__law_looks), sl__law_looks⟩)
    (c__law_looks : PySem.W.codeIn K cd__law_looks "_law_looks" = true)
    (k__law_looks : PySem.W.keepIn K (.ref f__law_looks) = true)
    (a__law_due : PySem.W.nsIn K mainGlobals "_law_due" = some (some (.ref f__law_due)))
    (l__law_due : K.lookup f__law_due = some ⟨oc__law_due, od__law_due, .func (PySem.W.fnOf "_law_due" "_law_due" (defArgs st_law_due) (defBody st_law_due) (defScope st_law_due) .none kV__law_due dc__law_due pm__law_due an__law_due cd__law_due ct__law_due), sl__law_due⟩)
    (c__law_due : PySem.W.codeIn K cd__law_due "_law_due" = true)
    (k__law_due : PySem.W.keepIn K (.ref f__law_due) = true)
    (a__law_is_rows : PySem.W.nsIn K mainGlobals "_law_is_rows" = some (some (.ref f__law_is_rows)))
    (l__law_is_rows : K.lookup f__law_is_rows = some ⟨oc__law_is_rows, od__law_is_rows, .func (PySem.W.fnOf "_law_is_rows" "_law_is_rows" (defArgs st_law_is_rows) (defBody st_law_is_rows) (defScope st_law_is_rows) .none kV__law_is_rows dc__law_is_rows pm__law_is_rows an__law_is_rows cd__law_is_rows ct__law_is_rows), sl__law_is_rows⟩)
    (c__law_is_rows : PySem.W.codeIn K cd__law_is_rows "_law_is_rows" = true)
    (k__law_is_rows : PySem.W.keepIn K (.ref f__law_is_rows) = true)
    (a__law_turned : PySem.W.nsIn K mainGlobals "_law_turned" = some (some (.ref f__law_turned)))
    (l__law_turned : K.lookup f__law_turned = some ⟨oc__law_turned, od__law_turned, .func (PySem.W.fnOf "_law_turned" "_law_turned" (defArgs st_law_turned) (defBody st_law_turned) (defScope st_law_turned) .none kV__law_turned dc__law_turned pm__law_turned an__law_turned cd__law_turned ct__law_turned), sl__law_turned⟩)
    (c__law_turned : PySem.W.codeIn K cd__law_turned "_law_turned" = true)
    (k__law_turned : PySem.W.keepIn K (.ref f__law_turned) = true)
    (a__law_others : PySem.W.nsIn K mainGlobals "_law_others" = some (some (.ref f__law_others)))
    (l__law_others : K.lookup f__law_others = some ⟨oc__law_others, od__law_others, .func (PySem.W.fnOf "_law_others" "_law_others" (defArgs st_law_others) (defBody st_law_others) (defScope st_law_others) .none kV__law_others dc__law_others pm__law_others an__law_others cd__law_others ct__law_others), sl__law_others⟩)
    (c__law_others : PySem.W.codeIn K cd__law_others "_law_others" = true)
    (k__law_others : PySem.W.keepIn K (.ref f__law_others) = true)
    (a__law_small_ones : PySem.W.nsIn K mainGlobals "_law_small_ones" = some (some (.ref f__law_small_ones)))
    (l__law_small_ones : K.lookup f__law_small_ones = some ⟨oc__law_small_ones, od__law_small_ones, .func (PySem.W.fnOf "_law_small_ones" "_law_small_ones" (defArgs st_law_small_ones) (defBody st_law_small_ones) (defScope st_law_small_ones) .none kV__law_small_ones dc__law_small_ones pm__law_small_ones an__law_small_ones cd__law_small_ones ct__law_small_ones), sl__law_small_ones⟩)
    (c__law_small_ones : PySem.W.codeIn K cd__law_small_ones "_law_small_ones" = true)
    (k__law_small_ones : PySem.W.keepIn K (.ref f__law_small_ones) = true)
    (a_law : PySem.W.nsIn K mainGlobals "law" = some (some (.ref f_law)))
    (l_law : K.lookup f_law = some ⟨oc_law, od_law, .func (PySem.W.fnOf "law" "law" (defArgs st_law) (defBody st_law) (defScope st_law) .none kV_law dc_law pm_law an_law cd_law ct_law), sl_law⟩)
    (c_law : PySem.W.codeIn K cd_law "law" = true)
    (k_law : PySem.W.keepIn K (.ref f_law) = true)
    (a_m___init__ : PySem.W.findIn K (.ref C) "__init__" = some (some (.ref f_m___init__)))
    (i_m___init__ : PySem.W.isFn K (.ref f_m___init__) = true)
    (l_m___init__ : K.lookup f_m___init__ = some ⟨oc_m___init__, od_m___init__, .func (PySem.W.fnOf "__init__" "Model.__init__" (defArgs st_Model_init) (defBody st_Model_init) (defScope st_Model_init) .none kV_m___init__ dc_m___init__ pm_m___init__ an_m___init__ cd_m___init__ ct_m___init__), sl_m___init__⟩)
    (c_m___init__ : PySem.W.codeIn K cd_m___init__ "Model.__init__" = true)
    (k_m___init__ : PySem.W.keepIn K (.ref f_m___init__) = true)
    (a_m_arrows : PySem.W.findIn K (.ref C) "arrows" = some (some (.ref f_m_arrows)))
    (i_m_arrows : PySem.W.isFn K (.ref f_m_arrows) = true)
    (l_m_arrows : K.lookup f_m_arrows = some ⟨oc_m_arrows, od_m_arrows, .func (PySem.W.fnOf "arrows" "Model.arrows" (defArgs st_Model_arrows) (defBody st_Model_arrows) (defScope st_Model_arrows) .none kV_m_arrows dc_m_arrows pm_m_arrows an_m_arrows cd_m_arrows ct_m_arrows), sl_m_arrows⟩)
    (c_m_arrows : PySem.W.codeIn K cd_m_arrows "Model.arrows" = true)
    (k_m_arrows : PySem.W.keepIn K (.ref f_m_arrows) = true)
    (a_m_marked : PySem.W.findIn K (.ref C) "marked" = some (some (.ref f_m_marked)))
    (i_m_marked : PySem.W.isFn K (.ref f_m_marked) = true)
    (l_m_marked : K.lookup f_m_marked = some ⟨oc_m_marked, od_m_marked, .func (PySem.W.fnOf "marked" "Model.marked" (defArgs st_Model_marked) (defBody st_Model_marked) (defScope st_Model_marked) .none kV_m_marked dc_m_marked pm_m_marked an_m_marked cd_m_marked ct_m_marked), sl_m_marked⟩)
    (c_m_marked : PySem.W.codeIn K cd_m_marked "Model.marked" = true)
    (k_m_marked : PySem.W.keepIn K (.ref f_m_marked) = true)
    (a_m_plain : PySem.W.findIn K (.ref C) "plain" = some (some (.ref f_m_plain)))
    (i_m_plain : PySem.W.isFn K (.ref f_m_plain) = true)
    (l_m_plain : K.lookup f_m_plain = some ⟨oc_m_plain, od_m_plain, .func (PySem.W.fnOf "plain" "Model.plain" (defArgs st_Model_plain) (defBody st_Model_plain) (defScope st_Model_plain) .none kV_m_plain dc_m_plain pm_m_plain an_m_plain cd_m_plain ct_m_plain), sl_m_plain⟩)
    (c_m_plain : PySem.W.codeIn K cd_m_plain "Model.plain" = true)
    (k_m_plain : PySem.W.keepIn K (.ref f_m_plain) = true)
    (pg : PySem.W.plainGet K C Str.empty = true)
    (hd : PySem.W.hasDictIn K C = true)
    (po : PySem.W.plainOver K C = true)
    (sa : PySem.W.findIn K (.ref C) "__setattr__" = some (some (.builtin "object.__setattr__")))
    (mk : PySem.W.makesIn K C = true)
    (kc : PySem.W.keepIn K (.ref C) = true)
    (nworld_count : PySem.W.findIn K (.ref C) "world_count" = some none)
    (n_arrows : PySem.W.findIn K (.ref C) "_arrows" = some none)
    (n_marks : PySem.W.findIn K (.ref C) "_marks" = some none)
    (nnames : PySem.W.findIn K (.ref C) "names" = some none)
    (natoms : PySem.W.findIn K (.ref C) "atoms" = some none)
    (u_RESERVED : PySem.W.nsIn K mainGlobals "RESERVED" = some (some (.ref g_RESERVED)))
    (v_RESERVED : K.lookup g_RESERVED = some ⟨.type "tuple", d_RESERVED, .seq #[.str "no" t_RESERVED_0, .str "not" t_RESERVED_1, .str "and" t_RESERVED_2, .str "or" t_RESERVED_3, .str "if" t_RESERVED_4, .str "then" t_RESERVED_5, .str "must" t_RESERVED_6, .str "may" t_RESERVED_7] n_RESERVED, s_RESERVED⟩)
    (u__LONGEST_NAME : PySem.W.nsIn K mainGlobals "_LONGEST_NAME" = some (some (.int 12 t__LONGEST_NAME)))
    (z_len : PySem.W.nsIn K mainGlobals "len" = some none)
    (z_int : PySem.W.nsIn K mainGlobals "int" = some none)
    (z_max : PySem.W.nsIn K mainGlobals "max" = some none)
    (z_min : PySem.W.nsIn K mainGlobals "min" = some none)
    (z_all : PySem.W.nsIn K mainGlobals "all" = some none)
    (z_any : PySem.W.nsIn K mainGlobals "any" = some none)
    (z_list : PySem.W.nsIn K mainGlobals "list" = some none)
    (z_tuple : PySem.W.nsIn K mainGlobals "tuple" = some none)
    (z_isinstance : PySem.W.nsIn K mainGlobals "isinstance" = some none)
    (z_range : PySem.W.nsIn K mainGlobals "range" = some none)
    (z_str : PySem.W.nsIn K mainGlobals "str" = some none)
    (z_bool : PySem.W.nsIn K mainGlobals "bool" = some none)
    (z_dict : PySem.W.nsIn K mainGlobals "dict" = some none)
    (z_reversed : PySem.W.nsIn K mainGlobals "reversed" = some none)
    (z_repr : PySem.W.nsIn K mainGlobals "repr" = some none)
    (z_enumerate : PySem.W.nsIn K mainGlobals "enumerate" = some none)
    (z_set : PySem.W.nsIn K mainGlobals "set" = some none)
    (z_sorted : PySem.W.nsIn K mainGlobals "sorted" = some none)
    (z_abs : PySem.W.nsIn K mainGlobals "abs" = some none) :
    ∃ fd : FuncData, (∀ (s : Shared) (v : Value), BindsTo s fd ⟨[v], []⟩ [("script", v)]) ∧ ∀ base : Heap, K.In base → base.Ns mainGlobals mg → FnOk P w K mg base (L2.CX P w) 27 fa fd ["script"] (spTop K) := by
  have F_is_name := fun_mk (st := st_is_name) l_is_name c_is_name k_is_name
  have b_is_name := F_is_name.binds (ps := ["value"]) fun _ _ _ _ _ _ us hl => match us, hl with | [_], _ => rfl
  have m_is_name := PySem.W.mg_of X Gn a_is_name
  have F__rows_of_pairs := fun_mk (st := st_rows_of_pairs) l__rows_of_pairs c__rows_of_pairs k__rows_of_pairs
  have b__rows_of_pairs := F__rows_of_pairs.binds (ps := ["world_count", "pairs"]) fun _ _ _ _ _ _ us hl => match us, hl with | [_, _], _ => rfl
  have m__rows_of_pairs := PySem.W.mg_of X Gn a__rows_of_pairs
  have F__row_of_worlds := fun_mk (st := st_row_of_worlds) l__row_of_worlds c__row_of_worlds k__row_of_worlds
  have b__row_of_worlds := F__row_of_worlds.binds (ps := ["world_count", "worlds"]) fun _ _ _ _ _ _ us hl => match us, hl with | [_, _], _ => rfl
  have m__row_of_worlds := PySem.W.mg_of X Gn a__row_of_worlds
  have F_mark_rows := fun_mk (st := st_mark_rows) l_mark_rows c_mark_rows k_mark_rows
  have b_mark_rows := F_mark_rows.binds (ps := ["model", "atoms"]) fun _ _ _ _ _ _ us hl => match us, hl with | [_, _], _ => rfl
  have m_mark_rows := PySem.W.mg_of X Gn a_mark_rows
  have F_sight_rows := fun_mk (st := st_sight_rows) l_sight_rows c_sight_rows k_sight_rows
  have b_sight_rows := F_sight_rows.binds (ps := ["model", "name"]) fun _ _ _ _ _ _ us hl => match us, hl with | [_, _], _ => rfl
  have m_sight_rows := PySem.W.mg_of X Gn a_sight_rows
  have F__numbered := fun_mk (st := st_numbered) l__numbered c__numbered k__numbered
  have b__numbered := F__numbered.binds (ps := ["keys"]) fun _ _ _ _ _ _ us hl => match us, hl with | [_], _ => rfl
  have m__numbered := PySem.W.mg_of X Gn a__numbered
  have F_next_numbers := fun_mk (st := st_next_numbers) l_next_numbers c_next_numbers k_next_numbers
  have b_next_numbers := F_next_numbers.binds (ps := ["model", "names", "numbers"]) fun _ _ _ _ _ _ us hl => match us, hl with | [_, _, _], _ => rfl
  have m_next_numbers := PySem.W.mg_of X Gn a_next_numbers
  have F_stages := fun_mk (st := st_stages) l_stages c_stages k_stages
  have b_stages := F_stages.binds (ps := ["model", "names", "atoms"]) fun _ _ _ _ _ _ us hl => match us, hl with | [_, _, _], _ => rfl
  have m_stages := PySem.W.mg_of X Gn a_stages
  have F__law_box := fun_mk (st := st_law_box) l__law_box c__law_box k__law_box
  have b__law_box := F__law_box.binds (ps := ["script"]) fun _ _ _ _ _ _ us hl => match us, hl with | [_], _ => rfl
  have m__law_box := PySem.W.mg_of X Gn a__law_box
  have F__law_take := fun_mk (st := st_law_take) l__law_take c__law_take k__law_take
  have b__law_take := F__law_take.binds (ps := ["box", "many"]) fun _ _ _ _ _ _ us hl => match us, hl with | [_, _], _ => rfl
  have m__law_take := PySem.W.mg_of X Gn a__law_take
  have F__law_word := fun_mk (st := st_law_word) l__law_word c__law_word k__law_word
  have b__law_word := F__law_word.binds (ps := ["box", "taken"]) fun _ _ _ _ _ _ us hl => match us, hl with | [_, _], _ => rfl
  have m__law_word := PySem.W.mg_of X Gn a__law_word
  have F__law_words := fun_mk (st := st_law_words) l__law_words c__law_words k__law_words
  have b__law_words := F__law_words.binds (ps := ["box"]) fun _ _ _ _ _ _ us hl => match us, hl with | [_], _ => rfl
  have m__law_words := PySem.W.mg_of X Gn a__law_words
  have F__law_given := fun_mk (st := st_law_given) l__law_given c__law_given k__law_given
  have b__law_given := F__law_given.binds (ps := ["box", "words"]) fun _ _ _ _ _ _ us hl => match us, hl with | [_, _], _ => rfl
  have m__law_given := PySem.W.mg_of X Gn a__law_given
  have F__law_rows := fun_mk (st := st_law_rows) l__law_rows c__law_rows k__law_rows
  have b__law_rows := F__law_rows.binds (ps := ["box", "count"]) fun _ _ _ _ _ _ us hl => match us, hl with | [_, _], _ => rfl
  have m__law_rows := PySem.W.mg_of X Gn a__law_rows
  have F__law_made := fun_mk (st := st_law_made) l__law_made c__law_made k__law_made
  have b__law_made := F__law_made.binds (ps := ["count", "links", "spots"]) fun _ _ _ _ _ _ us hl => match us, hl with | [_, _, _], _ => rfl
  have m__law_made := PySem.W.mg_of X Gn a__law_made
  have F__law_chain := fun_mk (st := st_law_chain) l__law_chain c__law_chain k__law_chain
  have b__law_chain := F__law_chain.binds (ps := ["box", "names", "atoms"]) fun _ _ _ _ _ _ us hl => match us, hl with | [_, _, _], _ => rfl
  have m__law_chain := PySem.W.mg_of X Gn a__law_chain
  have F__law_broad := fun_mk (st := st_law_broad) l__law_broad c__law_broad k__law_broad
  have b__law_broad := F__law_broad.binds (ps := ["box", "names", "atoms"]) fun _ _ _ _ _ _ us hl => match us, hl with | [_, _, _], _ => rfl
  have m__law_broad := PySem.W.mg_of X Gn a__law_broad
  have F__law_drawn := fun_mk (st := st_law_drawn) l__law_drawn c__law_drawn k__law_drawn
  have b__law_drawn := F__law_drawn.binds (ps := ["box", "names", "atoms"]) fun _ _ _ _ _ _ us hl => match us, hl with | [_, _, _], _ => rfl
  have m__law_drawn := PySem.W.mg_of X Gn a__law_drawn
  have F__law_numbered := fun_mk (st := st_law_numbered) l__law_numbered c__law_numbered k__law_numbered
  have b__law_numbered := F__law_numbered.binds (ps := ["keys"]) fun _ _ _ _ _ _ us hl => match us, hl with | [_], _ => rfl
  have m__law_numbered := PySem.W.mg_of X Gn a__law_numbered
  have F__law_looks := fun_mk (st := st_law_looks) l__law_looks c__law_looks k__law_looks
  have b__law_looks := F__law_looks.binds (ps := ["links", "name", "x", "row"]) fun _ _ _ _ _ _ us hl => match us, hl with | [_, _, _, _], _ => rfl
  have m__law_looks := PySem.W.mg_of X Gn a__law_looks
  have F__law_due := fun_mk (st := st_law_due) l__law_due c__law_due k__law_due
  have b__law_due := F__law_due.binds (ps := ["drawn", "given", "wanted"]) fun _ _ _ _ _ _ us hl => match us, hl with | [_, _, _], _ => rfl
  have m__law_due := PySem.W.mg_of X Gn a__law_due
  have F__law_is_rows := fun_mk (st := st_law_is_rows) l__law_is_rows c__law_is_rows k__law_is_rows
  have b__law_is_rows := F__law_is_rows.binds (ps := ["told"]) fun _ _ _ _ _ _ us hl => match us, hl with | [_], _ => rfl
  have m__law_is_rows := PySem.W.mg_of X Gn a__law_is_rows
  have F__law_turned := fun_mk (st := st_law_turned) l__law_turned c__law_turned k__law_turned
  have b__law_turned := F__law_turned.binds (ps := ["rows", "x", "y"]) fun _ _ _ _ _ _ us hl => match us, hl with | [_, _, _], _ => rfl
  have m__law_turned := PySem.W.mg_of X Gn a__law_turned
  have F__law_others := fun_mk (st := st_law_others) l__law_others c__law_others k__law_others
  have b__law_others := F__law_others.binds (ps := ["box", "drawn", "names", "atoms"]) fun _ _ _ _ _ _ us hl => match us, hl with | [_, _, _, _], _ => rfl
  have m__law_others := PySem.W.mg_of X Gn a__law_others
  have F__law_small_ones := fun_mk (st := st_law_small_ones) l__law_small_ones c__law_small_ones k__law_small_ones
  have b__law_small_ones := F__law_small_ones.binds (ps := ["box", "drawn", "words", "made", "given", "wanted", "due"]) fun _ _ _ _ _ _ us hl => match us, hl with | [_, _, _, _, _, _, _], _ => rfl
  have m__law_small_ones := PySem.W.mg_of X Gn a__law_small_ones
  have F_law := fun_mk (st := st_law) l_law c_law k_law
  have b_law := F_law.binds (ps := ["script"]) fun _ _ _ _ _ _ us hl => match us, hl with | [_], _ => rfl
  have m_law := PySem.W.mg_of X Gn a_law
  have F_m___init__ := fun_mk (st := st_Model_init) l_m___init__ c_m___init__ k_m___init__
  have b_m___init__ := F_m___init__.binds (ps := ["self", "world_count", "arrows", "marks"]) fun _ _ _ _ _ _ us hl => match us, hl with | [_, _, _, _], _ => rfl
  have F_m_arrows := fun_mk (st := st_Model_arrows) l_m_arrows c_m_arrows k_m_arrows
  have b_m_arrows := F_m_arrows.binds (ps := ["self", "name"]) fun _ _ _ _ _ _ us hl => match us, hl with | [_, _], _ => rfl
  have F_m_marked := fun_mk (st := st_Model_marked) l_m_marked c_m_marked k_m_marked
  have b_m_marked := F_m_marked.binds (ps := ["self", "atom"]) fun _ _ _ _ _ _ us hl => match us, hl with | [_, _], _ => rfl
  have F_m_plain := fun_mk (st := st_Model_plain) l_m_plain c_m_plain k_m_plain
  have b_m_plain := F_m_plain.binds (ps := ["self"]) fun _ _ _ _ _ _ us hl => match us, hl with | [_], _ => rfl
  have hcl : Cls K C := ⟨pg, hd, po, sa⟩
  have hmk : Mk K C f_m___init__ := ⟨mk, a_m___init__, i_m___init__, kc⟩
  have mC := PySem.W.mg_of X Gn aC
  have m_RESERVED := PySem.W.mg_of X Gn u_RESERVED
  have m__LONGEST_NAME := PySem.W.mg_of X Gn u__LONGEST_NAME
  have hblt : ∀ x ∈ bltNames, mg x = none := by
    intro x hx
    simp only [bltNames, List.mem_cons, List.not_mem_nil, or_false] at hx
    rcases hx with rfl | rfl | rfl | rfl | rfl | rfl | rfl | rfl | rfl | rfl | rfl | rfl | rfl | rfl | rfl | rfl | rfl | rfl | rfl
    · exact PySem.W.mg_none_of X Gn z_len
    · exact PySem.W.mg_none_of X Gn z_int
    · exact PySem.W.mg_none_of X Gn z_max
    · exact PySem.W.mg_none_of X Gn z_min
    · exact PySem.W.mg_none_of X Gn z_all
    · exact PySem.W.mg_none_of X Gn z_any
    · exact PySem.W.mg_none_of X Gn z_list
    · exact PySem.W.mg_none_of X Gn z_tuple
    · exact PySem.W.mg_none_of X Gn z_isinstance
    · exact PySem.W.mg_none_of X Gn z_range
    · exact PySem.W.mg_none_of X Gn z_str
    · exact PySem.W.mg_none_of X Gn z_bool
    · exact PySem.W.mg_none_of X Gn z_dict
    · exact PySem.W.mg_none_of X Gn z_reversed
    · exact PySem.W.mg_none_of X Gn z_repr
    · exact PySem.W.mg_none_of X Gn z_enumerate
    · exact PySem.W.mg_none_of X Gn z_set
    · exact PySem.W.mg_none_of X Gn z_sorted
    · exact PySem.W.mg_none_of X Gn z_abs
  have e := hfa.symm.trans m_law
  cases e
  have hna : ∀ f, atU 0 f = true → NoAttr K C f := by
    intro f hf
    simp only [atU, beq_self_eq_true, Bool.true_and, List.contains_eq_mem, decide_eq_true_eq, flNames, List.mem_cons, List.not_mem_nil, or_false] at hf
    rcases hf with rfl | rfl | rfl | rfl | rfl
    · exact nworld_count
    · exact n_arrows
    · exact n_marks
    · exact nnames
    · exact natoms
  have hgl : AllI (GlF gn K mg) 0 globsU := .c (gl_tup (ts := resv) rfl m_RESERVED v_RESERVED rfl rfl (by rw [sizeLine_eq]; simp) (.cons ⟨_, rfl⟩ <| .cons ⟨_, rfl⟩ <| .cons ⟨_, rfl⟩ <| .cons ⟨_, rfl⟩ <| .cons ⟨_, rfl⟩ <| .cons ⟨_, rfl⟩ <| .cons ⟨_, rfl⟩ <| .cons ⟨_, rfl⟩ <| .nil)) <| .c (gl_int rfl m__LONGEST_NAME) .n
  refine ⟨PySem.W.fnOf "law" "law" (defArgs st_law) (defBody st_law) (defScope st_law) .none kV_law dc_law pm_law an_law cd_law ct_law, fun s v => .of_eq rfl, fun base _ _ => ?_⟩
  have hex : ∀ fs cs, ExF gn (GG fs cs) [] 1 P w K mg base := by
    intro fs cs
    refine ⟨fun c x h => ?_, fun c C' fl h1 h2 => ?_, fun i C1 c C2 h1 h2 => ?_, fun c C' h => ?_, fun c C' t b h1 h2 => ?_⟩
    · simp [gn] at h
    · simp at h1
    · simp at h1
    · simp at h
    · simp at h1
  have gm_A : GMono (GG [] []) := gm0 (.n) rfl
  have B_A : Base gn (GG [] []) [C] [] 1 P w K mg base := base1' (C := C) rfl (.n) hgl hblt hcl hna ((hex _ _).mono (by decide))
  have D_is_name : DefOk false P w K mg base [C] [] 3 f_is_name (spIsName) := def_ok B_A F_is_name b_is_name sc_is_name rfl ck_is_name (body_is_name _ gm_A rfl rfl)
  have D__rows_of_pairs : DefOk false P w K mg base [C] [] 3 f__rows_of_pairs (spPairs) := def_ok B_A F__rows_of_pairs b__rows_of_pairs sc_rows_of_pairs rfl ck_rows_of_pairs (body_pairs _ gm_A)
  have D__row_of_worlds : DefOk false P w K mg base [C] [] 3 f__row_of_worlds (spWorlds) := def_ok B_A F__row_of_worlds b__row_of_worlds sc_row_of_worlds rfl ck_row_of_worlds (body_worlds _ gm_A)
  have D__numbered : DefOk false P w K mg base [C] [] 3 f__numbered (spNum) := def_ok B_A F__numbered b__numbered sc_numbered rfl ck_numbered (body_numbered _ gm_A)
  have D__law_box : DefOk false P w K mg base [C] [] 3 f__law_box (spBox) := def_ok B_A F__law_box b__law_box sc_law_box rfl ck_law_box (body_box _ gm_A)
  have D__law_take : DefOk false P w K mg base [C] [] 3 f__law_take (spTake) := def_ok B_A F__law_take b__law_take sc_law_take rfl ck_law_take (body_take _ gm_A)
  have D__law_numbered : DefOk false P w K mg base [C] [] 3 f__law_numbered (spLNum) := def_ok B_A F__law_numbered b__law_numbered sc_law_numbered rfl ck_law_numbered (body_lnumbered _ gm_A)
  have D__law_looks : DefOk false P w K mg base [C] [] 3 f__law_looks (spLooks) := def_ok B_A F__law_looks b__law_looks sc_law_looks rfl ck_law_looks (body_looks _ gm_A)
  have D__law_is_rows : DefOk false P w K mg base [C] [] 3 f__law_is_rows (spIsRows) := def_ok B_A F__law_is_rows b__law_is_rows sc_law_is_rows rfl ck_law_is_rows (body_is_rows _ gm_A)
  have D__law_turned : DefOk false P w K mg base [C] [] 3 f__law_turned (spTurned) := def_ok B_A F__law_turned b__law_turned sc_law_turned rfl ck_law_turned (body_turned _ gm_A)
  have D_m_arrows : DefOk false P w K mg base [C] [] 3 f_m_arrows (spArrows) := def_ok B_A F_m_arrows b_m_arrows sc_Model_arrows rfl ck_Model_arrows (body_arrows _ gm_A attrs)
  have D_m_marked : DefOk false P w K mg base [C] [] 3 f_m_marked (spMarked) := def_ok B_A F_m_marked b_m_marked sc_Model_marked rfl ck_Model_marked (body_marked _ gm_A attrs)
  have gm_B : GMono (GG [spIsName, spPairs, spWorlds] []) := gm0 (AllI.c is_name_mono' <| AllI.c pairs_mono' <| AllI.c worlds_mono' <| .n) rfl
  have B_B : Base gn (GG [spIsName, spPairs, spWorlds] []) [C] [] 3 P w K mg base := base1' (C := C) rfl (AllI.c ⟨_, _, rfl, D_is_name.mono (by decide), m_is_name, k_is_name⟩ <| AllI.c ⟨_, _, rfl, D__rows_of_pairs.mono (by decide), m__rows_of_pairs, k__rows_of_pairs⟩ <| AllI.c ⟨_, _, rfl, D__row_of_worlds.mono (by decide), m__row_of_worlds, k__row_of_worlds⟩ <| .n) hgl hblt hcl hna ((hex _ _).mono (by decide))
  have D_m___init__ : DefOk false P w K mg base [C] [] 5 f_m___init__ (spInit) := def_ok B_B F_m___init__ b_m___init__ sc_Model_init rfl ck_Model_init (body_init _ gm_B attrs rfl rfl rfl)
  have gm_C : GMono (GG [spIsName, spPairs, spWorlds] [⟨spInit, [spArrows, spMarked]⟩]) := gm1 (AllI.c is_name_mono' <| AllI.c pairs_mono' <| AllI.c worlds_mono' <| .n) rfl init_mono' (AllI.c arrows_mono' <| AllI.c marked_mono' <| .n)
  have B_C : Base gn (GG [spIsName, spPairs, spWorlds] [⟨spInit, [spArrows, spMarked]⟩]) [C] [] 5 P w K mg base := base1 (cv := ⟨spInit, [spArrows, spMarked]⟩) rfl rfl (AllI.c ⟨_, _, rfl, D_is_name.mono (by decide), m_is_name, k_is_name⟩ <| AllI.c ⟨_, _, rfl, D__rows_of_pairs.mono (by decide), m__rows_of_pairs, k__rows_of_pairs⟩ <| AllI.c ⟨_, _, rfl, D__row_of_worlds.mono (by decide), m__row_of_worlds, k__row_of_worlds⟩ <| .n) hgl hblt hmk (D_m___init__.mono (by decide)) mC (AllI.c ⟨_, _, rfl, ⟨a_m_arrows, i_m_arrows, k_m_arrows⟩, D_m_arrows.mono (by decide), (by decide +kernel : atU 0 "arrows" = false)⟩ <| AllI.c ⟨_, _, rfl, ⟨a_m_marked, i_m_marked, k_m_marked⟩, D_m_marked.mono (by decide), (by decide +kernel : atU 0 "marked" = false)⟩ <| .n) hcl hna ((hex _ _).mono (by decide))
  have D_mark_rows : DefOk false P w K mg base [C] [] 7 f_mark_rows (spMarks) := def_ok B_C F_mark_rows b_mark_rows sc_mark_rows rfl ck_mark_rows (body_marks _ gm_C attrs ⟨_, rfl, rfl⟩)
  have D_sight_rows : DefOk false P w K mg base [C] [] 7 f_sight_rows (spSight) := def_ok B_C F_sight_rows b_sight_rows sc_sight_rows rfl ck_sight_rows (body_sight _ gm_C attrs ⟨_, rfl, rfl⟩)
  have D_m_plain : DefOk false P w K mg base [C] [] 7 f_m_plain (spPlain) := def_ok B_C F_m_plain b_m_plain sc_Model_plain rfl ck_Model_plain (body_plain _ gm_C attrs ⟨_, rfl, rfl⟩)
  have gm_D : GMono (GG [spIsName, spPairs, spWorlds, spMarks, spSight, spNum] [⟨spInit, [spArrows, spMarked, spPlain]⟩]) := gm1 (AllI.c is_name_mono' <| AllI.c pairs_mono' <| AllI.c worlds_mono' <| AllI.c marks_mono' <| AllI.c sight_mono' <| AllI.c numbered_mono' <| .n) rfl init_mono' (AllI.c arrows_mono' <| AllI.c marked_mono' <| AllI.c plain_mono' <| .n)
  have B_D : Base gn (GG [spIsName, spPairs, spWorlds, spMarks, spSight, spNum] [⟨spInit, [spArrows, spMarked, spPlain]⟩]) [C] [] 7 P w K mg base := base1 (cv := ⟨spInit, [spArrows, spMarked, spPlain]⟩) rfl rfl (AllI.c ⟨_, _, rfl, D_is_name.mono (by decide), m_is_name, k_is_name⟩ <| AllI.c ⟨_, _, rfl, D__rows_of_pairs.mono (by decide), m__rows_of_pairs, k__rows_of_pairs⟩ <| AllI.c ⟨_, _, rfl, D__row_of_worlds.mono (by decide), m__row_of_worlds, k__row_of_worlds⟩ <| AllI.c ⟨_, _, rfl, D_mark_rows.mono (by decide), m_mark_rows, k_mark_rows⟩ <| AllI.c ⟨_, _, rfl, D_sight_rows.mono (by decide), m_sight_rows, k_sight_rows⟩ <| AllI.c ⟨_, _, rfl, D__numbered.mono (by decide), m__numbered, k__numbered⟩ <| .n) hgl hblt hmk (D_m___init__.mono (by decide)) mC (AllI.c ⟨_, _, rfl, ⟨a_m_arrows, i_m_arrows, k_m_arrows⟩, D_m_arrows.mono (by decide), (by decide +kernel : atU 0 "arrows" = false)⟩ <| AllI.c ⟨_, _, rfl, ⟨a_m_marked, i_m_marked, k_m_marked⟩, D_m_marked.mono (by decide), (by decide +kernel : atU 0 "marked" = false)⟩ <| AllI.c ⟨_, _, rfl, ⟨a_m_plain, i_m_plain, k_m_plain⟩, D_m_plain.mono (by decide), (by decide +kernel : atU 0 "plain" = false)⟩ <| .n) hcl hna ((hex _ _).mono (by decide))
  have D_next_numbers : DefOk false P w K mg base [C] [] 9 f_next_numbers (spNext) := def_ok B_D F_next_numbers b_next_numbers sc_next_numbers rfl ck_next_numbers (body_next _ gm_D rfl rfl)
  have gm_E : GMono (GG [spIsName, spPairs, spWorlds, spMarks, spSight, spNum, spNext] [⟨spInit, [spArrows, spMarked, spPlain]⟩]) := gm1 (AllI.c is_name_mono' <| AllI.c pairs_mono' <| AllI.c worlds_mono' <| AllI.c marks_mono' <| AllI.c sight_mono' <| AllI.c numbered_mono' <| AllI.c next_mono' <| .n) rfl init_mono' (AllI.c arrows_mono' <| AllI.c marked_mono' <| AllI.c plain_mono' <| .n)
  have B_E : Base gn (GG [spIsName, spPairs, spWorlds, spMarks, spSight, spNum, spNext] [⟨spInit, [spArrows, spMarked, spPlain]⟩]) [C] [] 9 P w K mg base := base1 (cv := ⟨spInit, [spArrows, spMarked, spPlain]⟩) rfl rfl (AllI.c ⟨_, _, rfl, D_is_name.mono (by decide), m_is_name, k_is_name⟩ <| AllI.c ⟨_, _, rfl, D__rows_of_pairs.mono (by decide), m__rows_of_pairs, k__rows_of_pairs⟩ <| AllI.c ⟨_, _, rfl, D__row_of_worlds.mono (by decide), m__row_of_worlds, k__row_of_worlds⟩ <| AllI.c ⟨_, _, rfl, D_mark_rows.mono (by decide), m_mark_rows, k_mark_rows⟩ <| AllI.c ⟨_, _, rfl, D_sight_rows.mono (by decide), m_sight_rows, k_sight_rows⟩ <| AllI.c ⟨_, _, rfl, D__numbered.mono (by decide), m__numbered, k__numbered⟩ <| AllI.c ⟨_, _, rfl, D_next_numbers.mono (by decide), m_next_numbers, k_next_numbers⟩ <| .n) hgl hblt hmk (D_m___init__.mono (by decide)) mC (AllI.c ⟨_, _, rfl, ⟨a_m_arrows, i_m_arrows, k_m_arrows⟩, D_m_arrows.mono (by decide), (by decide +kernel : atU 0 "arrows" = false)⟩ <| AllI.c ⟨_, _, rfl, ⟨a_m_marked, i_m_marked, k_m_marked⟩, D_m_marked.mono (by decide), (by decide +kernel : atU 0 "marked" = false)⟩ <| AllI.c ⟨_, _, rfl, ⟨a_m_plain, i_m_plain, k_m_plain⟩, D_m_plain.mono (by decide), (by decide +kernel : atU 0 "plain" = false)⟩ <| .n) hcl hna ((hex _ _).mono (by decide))
  have D_stages : DefOk false P w K mg base [C] [] 11 f_stages (spStages) := def_ok B_E F_stages b_stages sc_stages rfl ck_stages (body_stages _ gm_E rfl rfl rfl)
  have gm_F : GMono (GG [spIsName, spPairs, spWorlds, spMarks, spSight, spNum, spNext, spStages, spBox, spTake] [⟨spInit, [spArrows, spMarked, spPlain]⟩]) := gm1 (AllI.c is_name_mono' <| AllI.c pairs_mono' <| AllI.c worlds_mono' <| AllI.c marks_mono' <| AllI.c sight_mono' <| AllI.c numbered_mono' <| AllI.c next_mono' <| AllI.c stages_mono' <| AllI.c box_mono' <| AllI.c take_mono' <| .n) rfl init_mono' (AllI.c arrows_mono' <| AllI.c marked_mono' <| AllI.c plain_mono' <| .n)
  have B_F : Base gn (GG [spIsName, spPairs, spWorlds, spMarks, spSight, spNum, spNext, spStages, spBox, spTake] [⟨spInit, [spArrows, spMarked, spPlain]⟩]) [C] [] 11 P w K mg base := base1 (cv := ⟨spInit, [spArrows, spMarked, spPlain]⟩) rfl rfl (AllI.c ⟨_, _, rfl, D_is_name.mono (by decide), m_is_name, k_is_name⟩ <| AllI.c ⟨_, _, rfl, D__rows_of_pairs.mono (by decide), m__rows_of_pairs, k__rows_of_pairs⟩ <| AllI.c ⟨_, _, rfl, D__row_of_worlds.mono (by decide), m__row_of_worlds, k__row_of_worlds⟩ <| AllI.c ⟨_, _, rfl, D_mark_rows.mono (by decide), m_mark_rows, k_mark_rows⟩ <| AllI.c ⟨_, _, rfl, D_sight_rows.mono (by decide), m_sight_rows, k_sight_rows⟩ <| AllI.c ⟨_, _, rfl, D__numbered.mono (by decide), m__numbered, k__numbered⟩ <| AllI.c ⟨_, _, rfl, D_next_numbers.mono (by decide), m_next_numbers, k_next_numbers⟩ <| AllI.c ⟨_, _, rfl, D_stages.mono (by decide), m_stages, k_stages⟩ <| AllI.c ⟨_, _, rfl, D__law_box.mono (by decide), m__law_box, k__law_box⟩ <| AllI.c ⟨_, _, rfl, D__law_take.mono (by decide), m__law_take, k__law_take⟩ <| .n) hgl hblt hmk (D_m___init__.mono (by decide)) mC (AllI.c ⟨_, _, rfl, ⟨a_m_arrows, i_m_arrows, k_m_arrows⟩, D_m_arrows.mono (by decide), (by decide +kernel : atU 0 "arrows" = false)⟩ <| AllI.c ⟨_, _, rfl, ⟨a_m_marked, i_m_marked, k_m_marked⟩, D_m_marked.mono (by decide), (by decide +kernel : atU 0 "marked" = false)⟩ <| AllI.c ⟨_, _, rfl, ⟨a_m_plain, i_m_plain, k_m_plain⟩, D_m_plain.mono (by decide), (by decide +kernel : atU 0 "plain" = false)⟩ <| .n) hcl hna ((hex _ _).mono (by decide))
  have D__law_word : DefOk false P w K mg base [C] [] 13 f__law_word (spWord) := def_ok B_F F__law_word b__law_word sc_law_word rfl ck_law_word (body_word _ gm_F rfl)
  have D__law_given : DefOk false P w K mg base [C] [] 13 f__law_given (spGiven) := def_ok B_F F__law_given b__law_given sc_law_given rfl ck_law_given (body_given _ gm_F rfl)
  have D__law_rows : DefOk false P w K mg base [C] [] 13 f__law_rows (spRows) := def_ok B_F F__law_rows b__law_rows sc_law_rows rfl ck_law_rows (body_rows _ gm_F rfl)
  have D__law_made : DefOk false P w K mg base [C] [] 13 f__law_made (spMade) := def_ok B_F F__law_made b__law_made sc_law_made rfl ck_law_made (body_made _ gm_F ⟨_, rfl, rfl⟩)
  have D__law_chain : DefOk false P w K mg base [C] [] 13 f__law_chain (spDr 200) := def_ok B_F F__law_chain b__law_chain sc_law_chain rfl ck_law_chain (body_chain _ gm_F rfl)
  have gm_G : GMono (GG [spIsName, spPairs, spWorlds, spMarks, spSight, spNum, spNext, spStages, spBox, spTake, spWord] [⟨spInit, [spArrows, spMarked, spPlain]⟩]) := gm1 (AllI.c is_name_mono' <| AllI.c pairs_mono' <| AllI.c worlds_mono' <| AllI.c marks_mono' <| AllI.c sight_mono' <| AllI.c numbered_mono' <| AllI.c next_mono' <| AllI.c stages_mono' <| AllI.c box_mono' <| AllI.c take_mono' <| AllI.c word_mono' <| .n) rfl init_mono' (AllI.c arrows_mono' <| AllI.c marked_mono' <| AllI.c plain_mono' <| .n)
  have B_G : Base gn (GG [spIsName, spPairs, spWorlds, spMarks, spSight, spNum, spNext, spStages, spBox, spTake, spWord] [⟨spInit, [spArrows, spMarked, spPlain]⟩]) [C] [] 13 P w K mg base := base1 (cv := ⟨spInit, [spArrows, spMarked, spPlain]⟩) rfl rfl (AllI.c ⟨_, _, rfl, D_is_name.mono (by decide), m_is_name, k_is_name⟩ <| AllI.c ⟨_, _, rfl, D__rows_of_pairs.mono (by decide), m__rows_of_pairs, k__rows_of_pairs⟩ <| AllI.c ⟨_, _, rfl, D__row_of_worlds.mono (by decide), m__row_of_worlds, k__row_of_worlds⟩ <| AllI.c ⟨_, _, rfl, D_mark_rows.mono (by decide), m_mark_rows, k_mark_rows⟩ <| AllI.c ⟨_, _, rfl, D_sight_rows.mono (by decide), m_sight_rows, k_sight_rows⟩ <| AllI.c ⟨_, _, rfl, D__numbered.mono (by decide), m__numbered, k__numbered⟩ <| AllI.c ⟨_, _, rfl, D_next_numbers.mono (by decide), m_next_numbers, k_next_numbers⟩ <| AllI.c ⟨_, _, rfl, D_stages.mono (by decide), m_stages, k_stages⟩ <| AllI.c ⟨_, _, rfl, D__law_box.mono (by decide), m__law_box, k__law_box⟩ <| AllI.c ⟨_, _, rfl, D__law_take.mono (by decide), m__law_take, k__law_take⟩ <| AllI.c ⟨_, _, rfl, D__law_word.mono (by decide), m__law_word, k__law_word⟩ <| .n) hgl hblt hmk (D_m___init__.mono (by decide)) mC (AllI.c ⟨_, _, rfl, ⟨a_m_arrows, i_m_arrows, k_m_arrows⟩, D_m_arrows.mono (by decide), (by decide +kernel : atU 0 "arrows" = false)⟩ <| AllI.c ⟨_, _, rfl, ⟨a_m_marked, i_m_marked, k_m_marked⟩, D_m_marked.mono (by decide), (by decide +kernel : atU 0 "marked" = false)⟩ <| AllI.c ⟨_, _, rfl, ⟨a_m_plain, i_m_plain, k_m_plain⟩, D_m_plain.mono (by decide), (by decide +kernel : atU 0 "plain" = false)⟩ <| .n) hcl hna ((hex _ _).mono (by decide))
  have D__law_words : DefOk false P w K mg base [C] [] 15 f__law_words (spWords) := def_ok B_G F__law_words b__law_words sc_law_words rfl ck_law_words (body_words _ gm_G rfl rfl)
  have gm_H : GMono (GG [spIsName, spPairs, spWorlds, spMarks, spSight, spNum, spNext, spStages, spBox, spTake, spWord, spWords, spGiven, spRows, spMade, spDr 200] [⟨spInit, [spArrows, spMarked, spPlain]⟩]) := gm1 (AllI.c is_name_mono' <| AllI.c pairs_mono' <| AllI.c worlds_mono' <| AllI.c marks_mono' <| AllI.c sight_mono' <| AllI.c numbered_mono' <| AllI.c next_mono' <| AllI.c stages_mono' <| AllI.c box_mono' <| AllI.c take_mono' <| AllI.c word_mono' <| AllI.c words_mono' <| AllI.c given_mono' <| AllI.c rows_mono' <| AllI.c made_mono' <| AllI.c chain_mono' <| .n) rfl init_mono' (AllI.c arrows_mono' <| AllI.c marked_mono' <| AllI.c plain_mono' <| .n)
  have B_H : Base gn (GG [spIsName, spPairs, spWorlds, spMarks, spSight, spNum, spNext, spStages, spBox, spTake, spWord, spWords, spGiven, spRows, spMade, spDr 200] [⟨spInit, [spArrows, spMarked, spPlain]⟩]) [C] [] 15 P w K mg base := base1 (cv := ⟨spInit, [spArrows, spMarked, spPlain]⟩) rfl rfl (AllI.c ⟨_, _, rfl, D_is_name.mono (by decide), m_is_name, k_is_name⟩ <| AllI.c ⟨_, _, rfl, D__rows_of_pairs.mono (by decide), m__rows_of_pairs, k__rows_of_pairs⟩ <| AllI.c ⟨_, _, rfl, D__row_of_worlds.mono (by decide), m__row_of_worlds, k__row_of_worlds⟩ <| AllI.c ⟨_, _, rfl, D_mark_rows.mono (by decide), m_mark_rows, k_mark_rows⟩ <| AllI.c ⟨_, _, rfl, D_sight_rows.mono (by decide), m_sight_rows, k_sight_rows⟩ <| AllI.c ⟨_, _, rfl, D__numbered.mono (by decide), m__numbered, k__numbered⟩ <| AllI.c ⟨_, _, rfl, D_next_numbers.mono (by decide), m_next_numbers, k_next_numbers⟩ <| AllI.c ⟨_, _, rfl, D_stages.mono (by decide), m_stages, k_stages⟩ <| AllI.c ⟨_, _, rfl, D__law_box.mono (by decide), m__law_box, k__law_box⟩ <| AllI.c ⟨_, _, rfl, D__law_take.mono (by decide), m__law_take, k__law_take⟩ <| AllI.c ⟨_, _, rfl, D__law_word.mono (by decide), m__law_word, k__law_word⟩ <| AllI.c ⟨_, _, rfl, D__law_words.mono (by decide), m__law_words, k__law_words⟩ <| AllI.c ⟨_, _, rfl, D__law_given.mono (by decide), m__law_given, k__law_given⟩ <| AllI.c ⟨_, _, rfl, D__law_rows.mono (by decide), m__law_rows, k__law_rows⟩ <| AllI.c ⟨_, _, rfl, D__law_made.mono (by decide), m__law_made, k__law_made⟩ <| AllI.c ⟨_, _, rfl, D__law_chain.mono (by decide), m__law_chain, k__law_chain⟩ <| .n) hgl hblt hmk (D_m___init__.mono (by decide)) mC (AllI.c ⟨_, _, rfl, ⟨a_m_arrows, i_m_arrows, k_m_arrows⟩, D_m_arrows.mono (by decide), (by decide +kernel : atU 0 "arrows" = false)⟩ <| AllI.c ⟨_, _, rfl, ⟨a_m_marked, i_m_marked, k_m_marked⟩, D_m_marked.mono (by decide), (by decide +kernel : atU 0 "marked" = false)⟩ <| AllI.c ⟨_, _, rfl, ⟨a_m_plain, i_m_plain, k_m_plain⟩, D_m_plain.mono (by decide), (by decide +kernel : atU 0 "plain" = false)⟩ <| .n) hcl hna ((hex _ _).mono (by decide))
  have D__law_broad : DefOk false P w K mg base [C] [] 17 f__law_broad (spDr 200) := def_ok B_H F__law_broad b__law_broad sc_law_broad rfl ck_law_broad (body_broad _ gm_H rfl rfl)
  have gm_I : GMono (GG [spIsName, spPairs, spWorlds, spMarks, spSight, spNum, spNext, spStages, spBox, spTake, spWord, spWords, spGiven, spRows, spMade, spDr 200, spDr 200] [⟨spInit, [spArrows, spMarked, spPlain]⟩]) := gm1 (AllI.c is_name_mono' <| AllI.c pairs_mono' <| AllI.c worlds_mono' <| AllI.c marks_mono' <| AllI.c sight_mono' <| AllI.c numbered_mono' <| AllI.c next_mono' <| AllI.c stages_mono' <| AllI.c box_mono' <| AllI.c take_mono' <| AllI.c word_mono' <| AllI.c words_mono' <| AllI.c given_mono' <| AllI.c rows_mono' <| AllI.c made_mono' <| AllI.c chain_mono' <| AllI.c broad_mono' <| .n) rfl init_mono' (AllI.c arrows_mono' <| AllI.c marked_mono' <| AllI.c plain_mono' <| .n)
  have B_I : Base gn (GG [spIsName, spPairs, spWorlds, spMarks, spSight, spNum, spNext, spStages, spBox, spTake, spWord, spWords, spGiven, spRows, spMade, spDr 200, spDr 200] [⟨spInit, [spArrows, spMarked, spPlain]⟩]) [C] [] 17 P w K mg base := base1 (cv := ⟨spInit, [spArrows, spMarked, spPlain]⟩) rfl rfl (AllI.c ⟨_, _, rfl, D_is_name.mono (by decide), m_is_name, k_is_name⟩ <| AllI.c ⟨_, _, rfl, D__rows_of_pairs.mono (by decide), m__rows_of_pairs, k__rows_of_pairs⟩ <| AllI.c ⟨_, _, rfl, D__row_of_worlds.mono (by decide), m__row_of_worlds, k__row_of_worlds⟩ <| AllI.c ⟨_, _, rfl, D_mark_rows.mono (by decide), m_mark_rows, k_mark_rows⟩ <| AllI.c ⟨_, _, rfl, D_sight_rows.mono (by decide), m_sight_rows, k_sight_rows⟩ <| AllI.c ⟨_, _, rfl, D__numbered.mono (by decide), m__numbered, k__numbered⟩ <| AllI.c ⟨_, _, rfl, D_next_numbers.mono (by decide), m_next_numbers, k_next_numbers⟩ <| AllI.c ⟨_, _, rfl, D_stages.mono (by decide), m_stages, k_stages⟩ <| AllI.c ⟨_, _, rfl, D__law_box.mono (by decide), m__law_box, k__law_box⟩ <| AllI.c ⟨_, _, rfl, D__law_take.mono (by decide), m__law_take, k__law_take⟩ <| AllI.c ⟨_, _, rfl, D__law_word.mono (by decide), m__law_word, k__law_word⟩ <| AllI.c ⟨_, _, rfl, D__law_words.mono (by decide), m__law_words, k__law_words⟩ <| AllI.c ⟨_, _, rfl, D__law_given.mono (by decide), m__law_given, k__law_given⟩ <| AllI.c ⟨_, _, rfl, D__law_rows.mono (by decide), m__law_rows, k__law_rows⟩ <| AllI.c ⟨_, _, rfl, D__law_made.mono (by decide), m__law_made, k__law_made⟩ <| AllI.c ⟨_, _, rfl, D__law_chain.mono (by decide), m__law_chain, k__law_chain⟩ <| AllI.c ⟨_, _, rfl, D__law_broad.mono (by decide), m__law_broad, k__law_broad⟩ <| .n) hgl hblt hmk (D_m___init__.mono (by decide)) mC (AllI.c ⟨_, _, rfl, ⟨a_m_arrows, i_m_arrows, k_m_arrows⟩, D_m_arrows.mono (by decide), (by decide +kernel : atU 0 "arrows" = false)⟩ <| AllI.c ⟨_, _, rfl, ⟨a_m_marked, i_m_marked, k_m_marked⟩, D_m_marked.mono (by decide), (by decide +kernel : atU 0 "marked" = false)⟩ <| AllI.c ⟨_, _, rfl, ⟨a_m_plain, i_m_plain, k_m_plain⟩, D_m_plain.mono (by decide), (by decide +kernel : atU 0 "plain" = false)⟩ <| .n) hcl hna ((hex _ _).mono (by decide))
  have D__law_drawn : DefOk false P w K mg base [C] [] 19 f__law_drawn (spDr 300) := def_ok B_I F__law_drawn b__law_drawn sc_law_drawn rfl ck_law_drawn (body_drawn _ gm_I rfl rfl rfl rfl)
  have gm_J : GMono (GG [spIsName, spPairs, spWorlds, spMarks, spSight, spNum, spNext, spStages, spBox, spTake, spWord, spWords, spGiven, spRows, spMade, spDr 200, spDr 200, spDr 300, spLNum, spLooks] [⟨spInit, [spArrows, spMarked, spPlain]⟩]) := gm1 (AllI.c is_name_mono' <| AllI.c pairs_mono' <| AllI.c worlds_mono' <| AllI.c marks_mono' <| AllI.c sight_mono' <| AllI.c numbered_mono' <| AllI.c next_mono' <| AllI.c stages_mono' <| AllI.c box_mono' <| AllI.c take_mono' <| AllI.c word_mono' <| AllI.c words_mono' <| AllI.c given_mono' <| AllI.c rows_mono' <| AllI.c made_mono' <| AllI.c chain_mono' <| AllI.c broad_mono' <| AllI.c drawn_mono' <| AllI.c lnumbered_mono' <| AllI.c looks_mono' <| .n) rfl init_mono' (AllI.c arrows_mono' <| AllI.c marked_mono' <| AllI.c plain_mono' <| .n)
  have B_J : Base gn (GG [spIsName, spPairs, spWorlds, spMarks, spSight, spNum, spNext, spStages, spBox, spTake, spWord, spWords, spGiven, spRows, spMade, spDr 200, spDr 200, spDr 300, spLNum, spLooks] [⟨spInit, [spArrows, spMarked, spPlain]⟩]) [C] [] 19 P w K mg base := base1 (cv := ⟨spInit, [spArrows, spMarked, spPlain]⟩) rfl rfl (AllI.c ⟨_, _, rfl, D_is_name.mono (by decide), m_is_name, k_is_name⟩ <| AllI.c ⟨_, _, rfl, D__rows_of_pairs.mono (by decide), m__rows_of_pairs, k__rows_of_pairs⟩ <| AllI.c ⟨_, _, rfl, D__row_of_worlds.mono (by decide), m__row_of_worlds, k__row_of_worlds⟩ <| AllI.c ⟨_, _, rfl, D_mark_rows.mono (by decide), m_mark_rows, k_mark_rows⟩ <| AllI.c ⟨_, _, rfl, D_sight_rows.mono (by decide), m_sight_rows, k_sight_rows⟩ <| AllI.c ⟨_, _, rfl, D__numbered.mono (by decide), m__numbered, k__numbered⟩ <| AllI.c ⟨_, _, rfl, D_next_numbers.mono (by decide), m_next_numbers, k_next_numbers⟩ <| AllI.c ⟨_, _, rfl, D_stages.mono (by decide), m_stages, k_stages⟩ <| AllI.c ⟨_, _, rfl, D__law_box.mono (by decide), m__law_box, k__law_box⟩ <| AllI.c ⟨_, _, rfl, D__law_take.mono (by decide), m__law_take, k__law_take⟩ <| AllI.c ⟨_, _, rfl, D__law_word.mono (by decide), m__law_word, k__law_word⟩ <| AllI.c ⟨_, _, rfl, D__law_words.mono (by decide), m__law_words, k__law_words⟩ <| AllI.c ⟨_, _, rfl, D__law_given.mono (by decide), m__law_given, k__law_given⟩ <| AllI.c ⟨_, _, rfl, D__law_rows.mono (by decide), m__law_rows, k__law_rows⟩ <| AllI.c ⟨_, _, rfl, D__law_made.mono (by decide), m__law_made, k__law_made⟩ <| AllI.c ⟨_, _, rfl, D__law_chain.mono (by decide), m__law_chain, k__law_chain⟩ <| AllI.c ⟨_, _, rfl, D__law_broad.mono (by decide), m__law_broad, k__law_broad⟩ <| AllI.c ⟨_, _, rfl, D__law_drawn.mono (by decide), m__law_drawn, k__law_drawn⟩ <| AllI.c ⟨_, _, rfl, D__law_numbered.mono (by decide), m__law_numbered, k__law_numbered⟩ <| AllI.c ⟨_, _, rfl, D__law_looks.mono (by decide), m__law_looks, k__law_looks⟩ <| .n) hgl hblt hmk (D_m___init__.mono (by decide)) mC (AllI.c ⟨_, _, rfl, ⟨a_m_arrows, i_m_arrows, k_m_arrows⟩, D_m_arrows.mono (by decide), (by decide +kernel : atU 0 "arrows" = false)⟩ <| AllI.c ⟨_, _, rfl, ⟨a_m_marked, i_m_marked, k_m_marked⟩, D_m_marked.mono (by decide), (by decide +kernel : atU 0 "marked" = false)⟩ <| AllI.c ⟨_, _, rfl, ⟨a_m_plain, i_m_plain, k_m_plain⟩, D_m_plain.mono (by decide), (by decide +kernel : atU 0 "plain" = false)⟩ <| .n) hcl hna ((hex _ _).mono (by decide))
  have D__law_due : DefOk false P w K mg base [C] [] 21 f__law_due (spDue) := def_ok B_J F__law_due b__law_due sc_law_due rfl ck_law_due (body_due _ gm_J rfl rfl)
  have gm_K : GMono (GG [spIsName, spPairs, spWorlds, spMarks, spSight, spNum, spNext, spStages, spBox, spTake, spWord, spWords, spGiven, spRows, spMade, spDr 200, spDr 200, spDr 300, spLNum, spLooks, spDue, spIsRows, spTurned] [⟨spInit, [spArrows, spMarked, spPlain]⟩]) := gm1 (AllI.c is_name_mono' <| AllI.c pairs_mono' <| AllI.c worlds_mono' <| AllI.c marks_mono' <| AllI.c sight_mono' <| AllI.c numbered_mono' <| AllI.c next_mono' <| AllI.c stages_mono' <| AllI.c box_mono' <| AllI.c take_mono' <| AllI.c word_mono' <| AllI.c words_mono' <| AllI.c given_mono' <| AllI.c rows_mono' <| AllI.c made_mono' <| AllI.c chain_mono' <| AllI.c broad_mono' <| AllI.c drawn_mono' <| AllI.c lnumbered_mono' <| AllI.c looks_mono' <| AllI.c due_mono' <| AllI.c is_rows_mono' <| AllI.c turned_mono' <| .n) rfl init_mono' (AllI.c arrows_mono' <| AllI.c marked_mono' <| AllI.c plain_mono' <| .n)
  have B_K : Base gn (GG [spIsName, spPairs, spWorlds, spMarks, spSight, spNum, spNext, spStages, spBox, spTake, spWord, spWords, spGiven, spRows, spMade, spDr 200, spDr 200, spDr 300, spLNum, spLooks, spDue, spIsRows, spTurned] [⟨spInit, [spArrows, spMarked, spPlain]⟩]) [C] [] 21 P w K mg base := base1 (cv := ⟨spInit, [spArrows, spMarked, spPlain]⟩) rfl rfl (AllI.c ⟨_, _, rfl, D_is_name.mono (by decide), m_is_name, k_is_name⟩ <| AllI.c ⟨_, _, rfl, D__rows_of_pairs.mono (by decide), m__rows_of_pairs, k__rows_of_pairs⟩ <| AllI.c ⟨_, _, rfl, D__row_of_worlds.mono (by decide), m__row_of_worlds, k__row_of_worlds⟩ <| AllI.c ⟨_, _, rfl, D_mark_rows.mono (by decide), m_mark_rows, k_mark_rows⟩ <| AllI.c ⟨_, _, rfl, D_sight_rows.mono (by decide), m_sight_rows, k_sight_rows⟩ <| AllI.c ⟨_, _, rfl, D__numbered.mono (by decide), m__numbered, k__numbered⟩ <| AllI.c ⟨_, _, rfl, D_next_numbers.mono (by decide), m_next_numbers, k_next_numbers⟩ <| AllI.c ⟨_, _, rfl, D_stages.mono (by decide), m_stages, k_stages⟩ <| AllI.c ⟨_, _, rfl, D__law_box.mono (by decide), m__law_box, k__law_box⟩ <| AllI.c ⟨_, _, rfl, D__law_take.mono (by decide), m__law_take, k__law_take⟩ <| AllI.c ⟨_, _, rfl, D__law_word.mono (by decide), m__law_word, k__law_word⟩ <| AllI.c ⟨_, _, rfl, D__law_words.mono (by decide), m__law_words, k__law_words⟩ <| AllI.c ⟨_, _, rfl, D__law_given.mono (by decide), m__law_given, k__law_given⟩ <| AllI.c ⟨_, _, rfl, D__law_rows.mono (by decide), m__law_rows, k__law_rows⟩ <| AllI.c ⟨_, _, rfl, D__law_made.mono (by decide), m__law_made, k__law_made⟩ <| AllI.c ⟨_, _, rfl, D__law_chain.mono (by decide), m__law_chain, k__law_chain⟩ <| AllI.c ⟨_, _, rfl, D__law_broad.mono (by decide), m__law_broad, k__law_broad⟩ <| AllI.c ⟨_, _, rfl, D__law_drawn.mono (by decide), m__law_drawn, k__law_drawn⟩ <| AllI.c ⟨_, _, rfl, D__law_numbered.mono (by decide), m__law_numbered, k__law_numbered⟩ <| AllI.c ⟨_, _, rfl, D__law_looks.mono (by decide), m__law_looks, k__law_looks⟩ <| AllI.c ⟨_, _, rfl, D__law_due.mono (by decide), m__law_due, k__law_due⟩ <| AllI.c ⟨_, _, rfl, D__law_is_rows.mono (by decide), m__law_is_rows, k__law_is_rows⟩ <| AllI.c ⟨_, _, rfl, D__law_turned.mono (by decide), m__law_turned, k__law_turned⟩ <| .n) hgl hblt hmk (D_m___init__.mono (by decide)) mC (AllI.c ⟨_, _, rfl, ⟨a_m_arrows, i_m_arrows, k_m_arrows⟩, D_m_arrows.mono (by decide), (by decide +kernel : atU 0 "arrows" = false)⟩ <| AllI.c ⟨_, _, rfl, ⟨a_m_marked, i_m_marked, k_m_marked⟩, D_m_marked.mono (by decide), (by decide +kernel : atU 0 "marked" = false)⟩ <| AllI.c ⟨_, _, rfl, ⟨a_m_plain, i_m_plain, k_m_plain⟩, D_m_plain.mono (by decide), (by decide +kernel : atU 0 "plain" = false)⟩ <| .n) hcl hna ((hex _ _).mono (by decide))
  have D__law_others : DefOk false P w K mg base [C] [] 23 f__law_others (spOthers) := def_ok B_K F__law_others b__law_others sc_law_others rfl ck_law_others (body_others _ gm_K rfl rfl)
  have gm_L : GMono (GG [spIsName, spPairs, spWorlds, spMarks, spSight, spNum, spNext, spStages, spBox, spTake, spWord, spWords, spGiven, spRows, spMade, spDr 200, spDr 200, spDr 300, spLNum, spLooks, spDue, spIsRows, spTurned, spOthers] [⟨spInit, [spArrows, spMarked, spPlain]⟩]) := gm1 (AllI.c is_name_mono' <| AllI.c pairs_mono' <| AllI.c worlds_mono' <| AllI.c marks_mono' <| AllI.c sight_mono' <| AllI.c numbered_mono' <| AllI.c next_mono' <| AllI.c stages_mono' <| AllI.c box_mono' <| AllI.c take_mono' <| AllI.c word_mono' <| AllI.c words_mono' <| AllI.c given_mono' <| AllI.c rows_mono' <| AllI.c made_mono' <| AllI.c chain_mono' <| AllI.c broad_mono' <| AllI.c drawn_mono' <| AllI.c lnumbered_mono' <| AllI.c looks_mono' <| AllI.c due_mono' <| AllI.c is_rows_mono' <| AllI.c turned_mono' <| AllI.c others_mono' <| .n) rfl init_mono' (AllI.c arrows_mono' <| AllI.c marked_mono' <| AllI.c plain_mono' <| .n)
  have B_L : Base gn (GG [spIsName, spPairs, spWorlds, spMarks, spSight, spNum, spNext, spStages, spBox, spTake, spWord, spWords, spGiven, spRows, spMade, spDr 200, spDr 200, spDr 300, spLNum, spLooks, spDue, spIsRows, spTurned, spOthers] [⟨spInit, [spArrows, spMarked, spPlain]⟩]) [C] [] 23 P w K mg base := base1 (cv := ⟨spInit, [spArrows, spMarked, spPlain]⟩) rfl rfl (AllI.c ⟨_, _, rfl, D_is_name.mono (by decide), m_is_name, k_is_name⟩ <| AllI.c ⟨_, _, rfl, D__rows_of_pairs.mono (by decide), m__rows_of_pairs, k__rows_of_pairs⟩ <| AllI.c ⟨_, _, rfl, D__row_of_worlds.mono (by decide), m__row_of_worlds, k__row_of_worlds⟩ <| AllI.c ⟨_, _, rfl, D_mark_rows.mono (by decide), m_mark_rows, k_mark_rows⟩ <| AllI.c ⟨_, _, rfl, D_sight_rows.mono (by decide), m_sight_rows, k_sight_rows⟩ <| AllI.c ⟨_, _, rfl, D__numbered.mono (by decide), m__numbered, k__numbered⟩ <| AllI.c ⟨_, _, rfl, D_next_numbers.mono (by decide), m_next_numbers, k_next_numbers⟩ <| AllI.c ⟨_, _, rfl, D_stages.mono (by decide), m_stages, k_stages⟩ <| AllI.c ⟨_, _, rfl, D__law_box.mono (by decide), m__law_box, k__law_box⟩ <| AllI.c ⟨_, _, rfl, D__law_take.mono (by decide), m__law_take, k__law_take⟩ <| AllI.c ⟨_, _, rfl, D__law_word.mono (by decide), m__law_word, k__law_word⟩ <| AllI.c ⟨_, _, rfl, D__law_words.mono (by decide), m__law_words, k__law_words⟩ <| AllI.c ⟨_, _, rfl, D__law_given.mono (by decide), m__law_given, k__law_given⟩ <| AllI.c ⟨_, _, rfl, D__law_rows.mono (by decide), m__law_rows, k__law_rows⟩ <| AllI.c ⟨_, _, rfl, D__law_made.mono (by decide), m__law_made, k__law_made⟩ <| AllI.c ⟨_, _, rfl, D__law_chain.mono (by decide), m__law_chain, k__law_chain⟩ <| AllI.c ⟨_, _, rfl, D__law_broad.mono (by decide), m__law_broad, k__law_broad⟩ <| AllI.c ⟨_, _, rfl, D__law_drawn.mono (by decide), m__law_drawn, k__law_drawn⟩ <| AllI.c ⟨_, _, rfl, D__law_numbered.mono (by decide), m__law_numbered, k__law_numbered⟩ <| AllI.c ⟨_, _, rfl, D__law_looks.mono (by decide), m__law_looks, k__law_looks⟩ <| AllI.c ⟨_, _, rfl, D__law_due.mono (by decide), m__law_due, k__law_due⟩ <| AllI.c ⟨_, _, rfl, D__law_is_rows.mono (by decide), m__law_is_rows, k__law_is_rows⟩ <| AllI.c ⟨_, _, rfl, D__law_turned.mono (by decide), m__law_turned, k__law_turned⟩ <| AllI.c ⟨_, _, rfl, D__law_others.mono (by decide), m__law_others, k__law_others⟩ <| .n) hgl hblt hmk (D_m___init__.mono (by decide)) mC (AllI.c ⟨_, _, rfl, ⟨a_m_arrows, i_m_arrows, k_m_arrows⟩, D_m_arrows.mono (by decide), (by decide +kernel : atU 0 "arrows" = false)⟩ <| AllI.c ⟨_, _, rfl, ⟨a_m_marked, i_m_marked, k_m_marked⟩, D_m_marked.mono (by decide), (by decide +kernel : atU 0 "marked" = false)⟩ <| AllI.c ⟨_, _, rfl, ⟨a_m_plain, i_m_plain, k_m_plain⟩, D_m_plain.mono (by decide), (by decide +kernel : atU 0 "plain" = false)⟩ <| .n) hcl hna ((hex _ _).mono (by decide))
  have D__law_small_ones : DefOk false P w K mg base [C] [] 25 f__law_small_ones (spSmall) := def_ok B_L F__law_small_ones b__law_small_ones sc_law_small_ones rfl ck_law_small_ones (body_small _ gm_L rfl rfl rfl rfl rfl)
  have gm_M : GMono (GG [spIsName, spPairs, spWorlds, spMarks, spSight, spNum, spNext, spStages, spBox, spTake, spWord, spWords, spGiven, spRows, spMade, spDr 200, spDr 200, spDr 300, spLNum, spLooks, spDue, spIsRows, spTurned, spOthers, spSmall] [⟨spInit, [spArrows, spMarked, spPlain]⟩]) := gm1 (AllI.c is_name_mono' <| AllI.c pairs_mono' <| AllI.c worlds_mono' <| AllI.c marks_mono' <| AllI.c sight_mono' <| AllI.c numbered_mono' <| AllI.c next_mono' <| AllI.c stages_mono' <| AllI.c box_mono' <| AllI.c take_mono' <| AllI.c word_mono' <| AllI.c words_mono' <| AllI.c given_mono' <| AllI.c rows_mono' <| AllI.c made_mono' <| AllI.c chain_mono' <| AllI.c broad_mono' <| AllI.c drawn_mono' <| AllI.c lnumbered_mono' <| AllI.c looks_mono' <| AllI.c due_mono' <| AllI.c is_rows_mono' <| AllI.c turned_mono' <| AllI.c others_mono' <| AllI.c small_mono' <| .n) rfl init_mono' (AllI.c arrows_mono' <| AllI.c marked_mono' <| AllI.c plain_mono' <| .n)
  have B_M : Base gn (GG [spIsName, spPairs, spWorlds, spMarks, spSight, spNum, spNext, spStages, spBox, spTake, spWord, spWords, spGiven, spRows, spMade, spDr 200, spDr 200, spDr 300, spLNum, spLooks, spDue, spIsRows, spTurned, spOthers, spSmall] [⟨spInit, [spArrows, spMarked, spPlain]⟩]) [C] [] 25 P w K mg base := base1 (cv := ⟨spInit, [spArrows, spMarked, spPlain]⟩) rfl rfl (AllI.c ⟨_, _, rfl, D_is_name.mono (by decide), m_is_name, k_is_name⟩ <| AllI.c ⟨_, _, rfl, D__rows_of_pairs.mono (by decide), m__rows_of_pairs, k__rows_of_pairs⟩ <| AllI.c ⟨_, _, rfl, D__row_of_worlds.mono (by decide), m__row_of_worlds, k__row_of_worlds⟩ <| AllI.c ⟨_, _, rfl, D_mark_rows.mono (by decide), m_mark_rows, k_mark_rows⟩ <| AllI.c ⟨_, _, rfl, D_sight_rows.mono (by decide), m_sight_rows, k_sight_rows⟩ <| AllI.c ⟨_, _, rfl, D__numbered.mono (by decide), m__numbered, k__numbered⟩ <| AllI.c ⟨_, _, rfl, D_next_numbers.mono (by decide), m_next_numbers, k_next_numbers⟩ <| AllI.c ⟨_, _, rfl, D_stages.mono (by decide), m_stages, k_stages⟩ <| AllI.c ⟨_, _, rfl, D__law_box.mono (by decide), m__law_box, k__law_box⟩ <| AllI.c ⟨_, _, rfl, D__law_take.mono (by decide), m__law_take, k__law_take⟩ <| AllI.c ⟨_, _, rfl, D__law_word.mono (by decide), m__law_word, k__law_word⟩ <| AllI.c ⟨_, _, rfl, D__law_words.mono (by decide), m__law_words, k__law_words⟩ <| AllI.c ⟨_, _, rfl, D__law_given.mono (by decide), m__law_given, k__law_given⟩ <| AllI.c ⟨_, _, rfl, D__law_rows.mono (by decide), m__law_rows, k__law_rows⟩ <| AllI.c ⟨_, _, rfl, D__law_made.mono (by decide), m__law_made, k__law_made⟩ <| AllI.c ⟨_, _, rfl, D__law_chain.mono (by decide), m__law_chain, k__law_chain⟩ <| AllI.c ⟨_, _, rfl, D__law_broad.mono (by decide), m__law_broad, k__law_broad⟩ <| AllI.c ⟨_, _, rfl, D__law_drawn.mono (by decide), m__law_drawn, k__law_drawn⟩ <| AllI.c ⟨_, _, rfl, D__law_numbered.mono (by decide), m__law_numbered, k__law_numbered⟩ <| AllI.c ⟨_, _, rfl, D__law_looks.mono (by decide), m__law_looks, k__law_looks⟩ <| AllI.c ⟨_, _, rfl, D__law_due.mono (by decide), m__law_due, k__law_due⟩ <| AllI.c ⟨_, _, rfl, D__law_is_rows.mono (by decide), m__law_is_rows, k__law_is_rows⟩ <| AllI.c ⟨_, _, rfl, D__law_turned.mono (by decide), m__law_turned, k__law_turned⟩ <| AllI.c ⟨_, _, rfl, D__law_others.mono (by decide), m__law_others, k__law_others⟩ <| AllI.c ⟨_, _, rfl, D__law_small_ones.mono (by decide), m__law_small_ones, k__law_small_ones⟩ <| .n) hgl hblt hmk (D_m___init__.mono (by decide)) mC (AllI.c ⟨_, _, rfl, ⟨a_m_arrows, i_m_arrows, k_m_arrows⟩, D_m_arrows.mono (by decide), (by decide +kernel : atU 0 "arrows" = false)⟩ <| AllI.c ⟨_, _, rfl, ⟨a_m_marked, i_m_marked, k_m_marked⟩, D_m_marked.mono (by decide), (by decide +kernel : atU 0 "marked" = false)⟩ <| AllI.c ⟨_, _, rfl, ⟨a_m_plain, i_m_plain, k_m_plain⟩, D_m_plain.mono (by decide), (by decide +kernel : atU 0 "plain" = false)⟩ <| .n) hcl hna ((hex _ _).mono (by decide))
  exact (law_top (def_fn B_M F_law sc_law rfl ck_law (body_law _ gm_M ⟨_, rfl, rfl⟩ attrs rfl rfl rfl rfl rfl rfl rfl rfl rfl)) rfl (fun ns hl S R RX hR => ⟨ns, rfl, hl, hR⟩)).ok
theorem walk {l : PySem.W.OpenLaw} {q : Program} {loose : List Str} {XP : (Str → Option Value) → Heap → Prop} {YP : World → Heap → Prop} {d : DefRec} {K : Params → PySem.W.Frag} (hn : l.most = some 63) (hdf : d.params.defaults = [])
    (hY : ∀ (w : World) (h : Heap), YP w h → (K w.params).In h)
    (F : ∀ (w : World) (mg : Str → Option Value) (fa : Addr) (h : Heap), (K w.params).In h → h.Ns mainGlobals mg → mg d.name = some (.ref fa) →
      ∃ fd : FuncData, (∀ (s : Shared) (u : Value), BindsTo s fd ⟨[u], []⟩ [("script", u)]) ∧ ∀ base : Heap, (K w.params).In base → base.Ns mainGlobals mg → FnOk l.prog w (K w.params) mg base (L2.CX l.prog w) 27 fa fd ["script"] (spTop (K w.params))) :
    PySem.W.WalkO q loose XP YP l.row.toRowW d [] (fun f vs => PySem.call f vs) :=
  L2.walk_of (n := 63) (k := 27) (x := "script") (CX := fun w => L2.CX l.prog w) (sp := fun w => spTop (K w.params)) hn (by decide) hdf ⟨rfl, by decide, by decide⟩ hY F (fun _ _ a ns hl ho hS => ⟨a, ns, rfl, hS, ho, hl, fun _ => rfl⟩) fun _ _ _ _ _ ⟨_, _, _, _, _, _, _, _, _, _, _, _, z⟩ => z
end K22
end
open PySem PySem.W PyProof.Rows
set_option maxRecDepth 100000 in
set_option maxHeartbeats 0 in
theorem PySem.Challenge.cw_maymust_k22_stages_of_a_model_holds : PySem.Challenge.rw_maymust_k22_stages_of_a_model.Holds := by
  w_on; o_law; k_head; (case hw => w_witness2)
  k_fill
  refine K22.walk (l := PySem.Challenge.rw_maymust_k22_stages_of_a_model) rfl rfl (fun w h Y => PySem.W.kIn_of Y) ?F
  case F =>
    intro w mg fa h KX Gn hmg
    refine' K22.all_mk KX Gn hmg ?aC ?a_is_name ?l_is_name ?c_is_name ?k_is_name ?a__rows_of_pairs ?l__rows_of_pairs ?c__rows_of_pairs ?k__rows_of_pairs ?a__row_of_worlds ?l__row_of_worlds ?c__row_of_worlds ?k__row_of_worlds ?a_mark_rows ?l_mark_rows ?c_mark_rows ?k_mark_rows ?a_sight_rows ?l_sight_rows ?c_sight_rows ?k_sight_rows ?a__numbered ?l__numbered ?c__numbered ?k__numbered ?a_next_numbers ?l_next_numbers ?c_next_numbers ?k_next_numbers ?a_stages ?l_stages ?c_stages ?k_stages ?a__law_box ?l__law_box ?c__law_box ?k__law_box ?a__law_take ?l__law_take ?c__law_take ?k__law_take ?a__law_word ?l__law_word ?c__law_word ?k__law_word ?a__law_words ?l__law_words ?c__law_words ?k__law_words ?a__law_given ?l__law_given ?c__law_given ?k__law_given ?a__law_rows ?l__law_rows ?c__law_rows ?k__law_rows ?a__law_made ?l__law_made ?c__law_made ?k__law_made ?a__law_chain ?l__law_chain ?c__law_chain ?k__law_chain ?a__law_broad ?l__law_broad ?c__law_broad ?k__law_broad ?a__law_drawn ?l__law_drawn ?c__law_drawn ?k__law_drawn ?a__law_numbered ?l__law_numbered ?c__law_numbered ?k__law_numbered ?a__law_looks ?l__law_looks ?c__law_looks ?k__law_looks ?a__law_due ?l__law_due ?c__law_due ?k__law_due ?a__law_is_rows ?l__law_is_rows ?c__law_is_rows ?k__law_is_rows ?a__law_turned ?l__law_turned ?c__law_turned ?k__law_turned ?a__law_others ?l__law_others ?c__law_others ?k__law_others ?a__law_small_ones ?l__law_small_ones ?c__law_small_ones ?k__law_small_ones ?a_law ?l_law ?c_law ?k_law ?a_m___init__ ?i_m___init__ ?l_m___init__ ?c_m___init__ ?k_m___init__ ?a_m_arrows ?i_m_arrows ?l_m_arrows ?c_m_arrows ?k_m_arrows ?a_m_marked ?i_m_marked ?l_m_marked ?c_m_marked ?k_m_marked ?a_m_plain ?i_m_plain ?l_m_plain ?c_m_plain ?k_m_plain ?pg ?hd ?po ?sa ?mk ?kc ?nworld_count ?n_arrows ?n_marks ?nnames ?natoms ?u_RESERVED ?v_RESERVED ?u__LONGEST_NAME ?z_len ?z_int ?z_max ?z_min ?z_all ?z_any ?z_list ?z_tuple ?z_isinstance ?z_range ?z_str ?z_bool ?z_dict ?z_reversed ?z_repr ?z_enumerate ?z_set ?z_sorted ?z_abs
    (case aC => k_is)
    (case a_is_name => k_is)
    (case l_is_name => k_is)
    (case c_is_name => k_is)
    (case k_is_name => k_is)
    (case a__rows_of_pairs => k_is)
    (case l__rows_of_pairs => k_is)
    (case c__rows_of_pairs => k_is)
    (case k__rows_of_pairs => k_is)
    (case a__row_of_worlds => k_is)
    (case l__row_of_worlds => k_is)
    (case c__row_of_worlds => k_is)
    (case k__row_of_worlds => k_is)
    (case a_mark_rows => k_is)
    (case l_mark_rows => k_is)
    (case c_mark_rows => k_is)
    (case k_mark_rows => k_is)
    (case a_sight_rows => k_is)
    (case l_sight_rows => k_is)
    (case c_sight_rows => k_is)
    (case k_sight_rows => k_is)
    (case a__numbered => k_is)
    (case l__numbered => k_is)
    (case c__numbered => k_is)
    (case k__numbered => k_is)
    (case a_next_numbers => k_is)
    (case l_next_numbers => k_is)
    (case c_next_numbers => k_is)
    (case k_next_numbers => k_is)
    (case a_stages => k_is)
    (case l_stages => k_is)
    (case c_stages => k_is)
    (case k_stages => k_is)
    (case a__law_box => k_is)
    (case l__law_box => k_is)
    (case c__law_box => k_is)
    (case k__law_box => k_is)
    (case a__law_take => k_is)
    (case l__law_take => k_is)
    (case c__law_take => k_is)
    (case k__law_take => k_is)
    (case a__law_word => k_is)
    (case l__law_word => k_is)
    (case c__law_word => k_is)
    (case k__law_word => k_is)
    (case a__law_words => k_is)
    (case l__law_words => k_is)
    (case c__law_words => k_is)
    (case k__law_words => k_is)
    (case a__law_given => k_is)
    (case l__law_given => k_is)
    (case c__law_given => k_is)
    (case k__law_given => k_is)
    (case a__law_rows => k_is)
    (case l__law_rows => k_is)
    (case c__law_rows => k_is)
    (case k__law_rows => k_is)
    (case a__law_made => k_is)
    (case l__law_made => k_is)
    (case c__law_made => k_is)
    (case k__law_made => k_is)
    (case a__law_chain => k_is)
    (case l__law_chain => k_is)
    (case c__law_chain => k_is)
    (case k__law_chain => k_is)
    (case a__law_broad => k_is)
    (case l__law_broad => k_is)
    (case c__law_broad => k_is)
    (case k__law_broad => k_is)
    (case a__law_drawn => k_is)
    (case l__law_drawn => k_is)
    (case c__law_drawn => k_is)
    (case k__law_drawn => k_is)
    (case a__law_numbered => k_is)
    (case l__law_numbered => k_is)
    (case c__law_numbered => k_is)
    (case k__law_numbered => k_is)
    (case a__law_looks => k_is)
    (case l__law_looks => k_is)
    (case c__law_looks => k_is)
    (case k__law_looks => k_is)
    (case a__law_due => k_is)
    (case l__law_due => k_is)
    (case c__law_due => k_is)
    (case k__law_due => k_is)
    (case a__law_is_rows => k_is)
    (case l__law_is_rows => k_is)
    (case c__law_is_rows => k_is)
    (case k__law_is_rows => k_is)
    (case a__law_turned => k_is)
    (case l__law_turned => k_is)
    (case c__law_turned => k_is)
    (case k__law_turned => k_is)
    (case a__law_others => k_is)
    (case l__law_others => k_is)
    (case c__law_others => k_is)
    (case k__law_others => k_is)
    (case a__law_small_ones => k_is)
    (case l__law_small_ones => k_is)
    (case c__law_small_ones => k_is)
    (case k__law_small_ones => k_is)
    (case a_law => k_is)
    (case l_law => k_is)
    (case c_law => k_is)
    (case k_law => k_is)
    (case a_m___init__ => k_is)
    (case i_m___init__ => k_is)
    (case l_m___init__ => k_is)
    (case c_m___init__ => k_is)
    (case k_m___init__ => k_is)
    (case a_m_arrows => k_is)
    (case i_m_arrows => k_is)
    (case l_m_arrows => k_is)
    (case c_m_arrows => k_is)
    (case k_m_arrows => k_is)
    (case a_m_marked => k_is)
    (case i_m_marked => k_is)
    (case l_m_marked => k_is)
    (case c_m_marked => k_is)
    (case k_m_marked => k_is)
    (case a_m_plain => k_is)
    (case i_m_plain => k_is)
    (case l_m_plain => k_is)
    (case c_m_plain => k_is)
    (case k_m_plain => k_is)
    (case pg => k_is)
    (case hd => k_is)
    (case po => k_is)
    (case sa => k_is)
    (case mk => k_is)
    (case kc => k_is)
    (case nworld_count => k_is)
    (case n_arrows => k_is)
    (case n_marks => k_is)
    (case nnames => k_is)
    (case natoms => k_is)
    (case u_RESERVED => k_is)
    (case v_RESERVED => k_is)
    (case u__LONGEST_NAME => k_is)
    (case z_len => k_is)
    (case z_int => k_is)
    (case z_max => k_is)
    (case z_min => k_is)
    (case z_all => k_is)
    (case z_any => k_is)
    (case z_list => k_is)
    (case z_tuple => k_is)
    (case z_isinstance => k_is)
    (case z_range => k_is)
    (case z_str => k_is)
    (case z_bool => k_is)
    (case z_dict => k_is)
    (case z_reversed => k_is)
    (case z_repr => k_is)
    (case z_enumerate => k_is)
    (case z_set => k_is)
    (case z_sorted => k_is)
    (case z_abs => k_is)
