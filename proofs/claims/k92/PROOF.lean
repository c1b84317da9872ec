import PyProof.Rows.All
import Wide.All
import OpenK.AllK
import Wide.FinOn
import KE.KOwnIter
import HandS.Base
import HandS.Call
import HandS.List
import HandS.More
import HandS.Iter
import HandS.IterNext
import HandS.IterVal
import HandS.Slots
import HandS.Exc
import HandS.OwnEq
import HandS.OwnIter
import HandS.Words
import HandS.WordsExc
import HandS.Defaults
import KE.KExcSuper
import KE.KSuper
import HandS.ExcInit
import HandS.ExcOwn
import HandS.Comp
import HandS.Strs
import HandS.SetBool
import HandS.DictComp
import HandS.Evl
import HandS.Star
import HandS.ClsMeth
import HandS.Property
import HandS.MakeKwOnly
import HandS.ExcField
import HandS.SlotsOwn
import KE.GoesEnum
import HandS.Head0
import HandS.Head1
import HandS.Head2
import HandS.HeadEnd
import HandS.EndBits
import HandS.HeadHook1
import HandS.HeadHook2
import HandS.Wide
import HandS.IsInst
import HandS.Flow
import HandS.StrMore
import HandS.TryMany
import HandS.RaiseOp
import HandS.Deep
import HandS.WordsDict
import HandS.SetFor
import HandS.Conv
import PySem.Challenge.RW_placelayers_k92_many_layers_and_keys
import Lean
import HandS.HeadWalk
section
section
set_option Elab.async false
set_option linter.all false
set_option maxRecDepth 100000
set_option maxHeartbeats 2000000
/-! PlA: a for over an own instance with slots whose __iter__ hands back a list's iterator. -/
namespace Pl
open PySem PySem.Spec PyProof.Rows L2

/-- a promise that may speak of the state at the call -/
abbrev SpS := Shared → Sp
def FnS (P : Program) (w : World) (K : PySem.W.Frag) (mg : Str → Option Value) (base : Heap) (CX : CXT) (k : Nat) (f : Addr) (sp : SpS) : Prop :=
  ∀ (A : Around) (outer : List Env) (s : Shared) (H : Hp) (us : List Value) (vs : List V) (Q : VK) (E : XK), Room k A → Env0 P w K mg base A outer s H → Vals vs us → sp s vs H Q E →
    codeAny (model P w) A (.call (.ref f) ⟨us, []⟩) (CR CX outer P w H s Q E) s
theorem fnS_of {CX : CXT} {P : Program} {w : World} {K : PySem.W.Frag} {mg : Str → Option Value} {base : Heap} {k : Nat} {f : Addr} {x qual : Str} {params : Arguments} {body : List Stmt} {scope : Scope} {dvs : List V} {kws : List (Str × V)} {fd : FuncData}
    {N ps : List Str} {sp : SpS} (F : FunD K x qual params body scope dvs kws f fd) (S : FnScope N ps scope) (len : ∀ s vs H Q E, sp s vs H Q E → vs.length = ps.length) (bd : Binds K fd ps [])
    (hbody : ∀ (cdv : Value) (A : Around) (outer : List Env) (s : Shared) (H : Hp) (vs : List V) (Q : VK) (E : XK), Room k (A.deeper (envOfC qual scope s.heap.objs.size f cdv)) → sp s vs H Q E →
      ∃ t, PSs (cxOf CX P w K mg base N qual scope f cdv A outer s H E) body t ∧ t { nx := fun _ H' => Q .non H', rt := Q } (start N vs) H) :
    FnS P w K mg base CX (k + 1) f sp := by
  intro A outer s H us vs Q E hr e0 r hsp
  obtain ⟨oc, od, dV, kV, doc, pm, an, cdv, ct, osl, rfl, lk, hcd, _, _⟩ := F.ex
  have hl : us.length = ps.length := r.length.symm.trans (len _ _ _ _ _ hsp)
  have kin : K.In s.heap := e0.mod.kin.keeps fun b o e => (e0.bs b o e).1
  have b0 := bd s us kin (by rw [List.append_nil]; exact hl)
  rw [List.append_nil] at b0
  refine codeAny_call_function hr.depth (kin _ _ lk) rfl S.co S.gen rfl (PySem.W.codeRec_of kin hcd) (b0 _ _ _ _ ?_)
  refine wpAny_newFunctionEnv_cells S.kind (fun y hy => ?_) fun env he s1 z => ?_
  · rcases S.par y.1 (List.of_mem_zip (show (y.1, y.2) ∈ ps.zip us from hy)).1 with q | q
    · exact .inl q
    · exact .inr ⟨q, PySem.W.cellsFrom_some _ _ _ (.inl q)⟩
  subst he
  refine ⟨(e0.mod.nolimit.keeps fun b o e => (e0.bs b o e).1).keeps z.toInCall.keep, codeAny_func ?_⟩
  obtain ⟨t, ht, hq⟩ := hbody cdv A outer s H vs Q E (hr.deeper _) hsp
  refine wpAny_mono (ht.run [] s1 (start N vs) H _ (inv_start S hr.hd e0 (len _ _ _ _ _ hsp) r z) hq) (fun fl s' hs => ?_) fun _ _ hs => hs
  cases fl with
  | ret u =>
    obtain ⟨v, σ', H', J, rv, q⟩ := hs
    exact ⟨v, H', J.os, J.bare, J.base, J.hok, rv, q⟩
  | next =>
    obtain ⟨σ', H', J, q⟩ := hs
    exact ⟨V.non, H', J.os, J.bare, J.base, J.hok, rfl, q⟩
  | brk => exact hs.elim fun _ h => h.elim fun _ h => h.2.elim
  | cont => exact hs.elim fun _ h => h.elim fun _ h => h.2.elim
theorem run_fnS' {X : Cx} {CX : CXT} {k : Nat} {f : Addr} {sp : SpS} {E : XK} {pins : List (Addr × Obj)} {σ : L2.St} {H : Hp} {s : Shared} {Q : VK} {us : List Value} {vs : List V} (F : FnS X.prog X.w X.K X.mg X.base CX k f sp) (hr : Room k X.A) (hx : Passes CX X E)
    (I : Inv X pins σ H s) (r : Vals vs us) (h : sp s vs H Q E) : wpAny (model X.prog X.w) X.A (call (.ref f) us) (EP X pins σ Q) X.xe s := by
  refine wpAny_call (codeAny_mono (F X.A X.stack s H us vs Q E hr I.env0 r h) fun rr s' hq => ?_)
  rcases rr with e | fl
  · exact hx pins σ H s e s' I hq
  · cases fl with
    | ret u => exact I.after hq
    | _ => exact False.elim hq

/-- what the class at C has: its __iter__ is the def at fi -/
structure IterC (K : PySem.W.Frag) (C fi : Addr) : Prop where
  at_ : PySem.W.findIn K (.ref C) "__iter__" = some (some (.ref fi))
  fn : PySem.W.isFn K (.ref fi) = true
/-- __iter__ of a slotted class whose slot i holds a list: a new iterator at its start -/
def spIter (K : PySem.W.Frag) (C : Addr) (i : Nat) : SpS := fun s vs H Q _ => ∃ a dx sv l zs, vs = [.ref a] ∧ SlX.Slt H a C dx sv ∧ sv[i]? = some (some (.ref l)) ∧ SqL K H l zs ∧
  ∀ it, H it = none → s.heap.objs.size ≤ it → Q (.ref it) (upd H it (ItO l it 0))
/-- a for over such an instance: over the list that its slot i holds -/
def iOwn (K : PySem.W.Frag) (C : Addr) (i : Nat) (te : TE) : TI := fun σ H R => te σ H fun x H1 => ∃ a dx sv l zs, x = .ref a ∧ SlX.Slt H1 a C dx sv ∧ sv[i]? = some (some (.ref l)) ∧ SqL K H1 l zs ∧ R (Itl K l) H1
section
variable {X : Cx} {tg e : Expr} {te : TE} {CX : CXT} {k i : Nat} {C fi : Addr}
theorem pi_own (he : PE X e te) (hc : IterC X.K C fi) (F : FnS X.prog X.w X.K X.mg X.base CX k fi (spIter X.K C i)) (hr : Room k X.A) (hx : Passes CX X E0) : PI X tg e (iOwn X.K C i te) := by
  refine ⟨fun pins s σ H R I h => ?_⟩
  refine thn (he.run pins s σ H _ I h) fun u s1 hh => ?_
  obtain ⟨x, H1, I1, rx, a, dx, sv, l, zs, ex, hsl, hi, hz, q⟩ := hh
  subst ex
  cases rx
  obtain ⟨sl, od, rs, J, hl⟩ := SlX.slt_inst I1 hsl
  obtain ⟨m, fr⟩ := I1.fr
  refine PySem.W.owit_iter fr I1.ok.mod.kin J hc.at_ hc.fn ?_
  have hsp : spIter X.K C i s1 [.ref a] H1 (fun v H2 => ∃ it, v = .ref it ∧ H1 it = none ∧ s1.heap.objs.size ≤ it ∧ H2 = upd H1 it (ItO l it 0)) E0 := ⟨a, dx, sv, l, zs, rfl, hsl, hi, hz, fun it hn hs => ⟨it, rfl, hn, hs, rfl⟩⟩
  refine wpAny_mono (run_fnS' (us := [.ref a]) (vs := [.ref a]) F hr hx I1 (.cons rfl .nil) hsp) (fun v s2 hv => ?_) (fun _ _ z => z)
  obtain ⟨y, H2, I2, ry, it, ey, hn, hs, eH⟩ := hv
  subst ey
  cases ry
  have hi2 : H2 it = some (ItO l it 0) := by rw [eH, upd_same]
  have eo := itO_get I2 hi2
  have hT : s2.TypeIs (.ref it) "list_iterator" := ⟨_, eo, rfl⟩
  show PySem.W.OwitIt _ _ _ _ _ _
  unfold PySem.W.OwitIt
  refine wpAny_specialOf (name := Str.ofString "__next__") hT slot_listiter_next.lookup ?_
  have hi' := hi2
  unfold ItO at hi'
  have I3 := ItX.inv_drop I2 hi'
  have e3 : ItX.dropH H2 it = H1 := by rw [eH]; exact ItX.dropH_upd hn
  refine ⟨it, [it], _, _, H1, rfl, (by rw [← e3]; exact I3), turn_list l it, ⟨_, eo, rfl, rfl⟩, fun b hb => ?_, q⟩
  have eb : b = it := by simpa using hb
  rw [eb, ← e3]
  exact ItX.inv_fp I2 hi2 (Nat.le_trans I1.sz hs)
end
end Pl

end

section
set_option Elab.async false
set_option linter.all false
set_option maxRecDepth 100000
set_option maxHeartbeats 2000000
/-! PlB: list(o), o an own instance with slots, with __iter__ and __len__. -/
namespace Pl
open PySem PySem.Spec PyProof.Rows L2

structure LenC (K : PySem.W.Frag) (C fl : Addr) : Prop where
  at_ : PySem.W.findIn K (.ref C) "__len__" = some (some (.ref fl))
  fn : PySem.W.isFn K (.ref fl) = true
/-- __len__: the length of the list in slot i -/
def spLen (K : PySem.W.Frag) (C : Addr) (i : Nat) : Sp := fun vs H Q _ => ∃ a dx sv l zs, vs = [.ref a] ∧ SlX.Slt H a C dx sv ∧ sv[i]? = some (some (.ref l)) ∧ SqL K H l zs ∧ Q (.int zs.length) H
/-- list(o): a new list of what slot i's list holds -/
def rListSl (K : PySem.W.Frag) (C : Addr) (i : Nat) : List V → Hp → VK → Prop := fun xs H Q => ∃ a dx sv l zs, xs = [.ref a] ∧ SlX.Slt H a C dx sv ∧ sv[i]? = some (some (.ref l)) ∧ SqL K H l zs ∧ zs.length < sizeLine ∧
  ∀ q, H q = none → Q (.ref q) (upd H q (.lst zs))
section
variable {X : Cx} {pins : List (Addr × Obj)} {σ : L2.St} {H : Hp} {s : Shared} {a C dx fi fl l it q : Addr} {sv : List (Option V)} {i k : Nat} {zs : List V} {CX : CXT}
theorem slt_upd {b : Addr} {o : HO} (h : SlX.Slt H a C dx sv) (n : H b = none) : SlX.Slt (upd H b o) a C dx sv := by
  rcases h with ⟨h1, h2⟩ | ⟨h1, h2⟩
  · exact .inl ⟨by rw [upd_ne (ne_of_none h1 n)]; exact h1, h2⟩
  · exact .inr ⟨by rw [upd_ne (ne_of_none h1 n)]; exact h1, by rw [upd_ne (ne_of_none h2 n)]; exact h2⟩
theorem sql_upd {K : PySem.W.Frag} {b : Addr} {o : HO} (h : SqL K H l zs) (n : H b = none) : SqL K (upd H b o) l zs := by
  rcases h with (h | ⟨u, h⟩) | h
  · exact .inl (.inl (by rw [upd_ne (ne_of_none h n)]; exact h))
  · exact .inl (.inr ⟨u, by rw [upd_ne (ne_of_none h n)]; exact h⟩)
  · exact .inr h
theorem sql_at {K : PySem.W.Frag} {H' : Hp} (h : SqL K H l zs) (e : H' l = H l) : SqL K H' l zs := by
  unfold SqL Rd at h ⊢
  rw [e]
  exact h
theorem fill_loop {A1 : Around} {Rs : Result → Shared → Prop} {H0 : Hp} (hh : A1.handled = none) (hz : zs.length < sizeLine) (h0 : H0 q = none) (hl : SqL X.K H0 l zs)
    (fin : ∀ s', Inv X pins σ (upd H0 q (.lst zs)) s' → Rs (.ok (.ret .none)) s') :
    ∀ (n j : Nat) (s : Shared), n = zs.length - j → j ≤ zs.length → Inv X pins σ (upd H0 q (.lst (zs.take j))) s → FpOk X pins (upd H0 q (.lst (zs.take j))) it → s.heap.IsListIter it l j →
      codeAny (model X.prog X.w) A1 (.builtin "list.extend.loop" ⟨[.ref q, .ref it, .none], []⟩) Rs s := by
  intro n
  induction n with
  | zero =>
    intro j s hn hj I hf st
    have ej : j = zs.length := by omega
    subst ej
    rw [List.take_length] at I hf
    refine codeAny_builtin PySem.F.entry_extend_loop ?_
    rw [Around.under_plainId PySem.F.plain_extend_loop _]
    obtain ⟨its, rv, pl, hz'⟩ := I.list (sql_upd (o := .lst zs) hl h0)
    obtain ⟨f0, f1, f2, f3, f4, f5⟩ := hf
    show wpAny _ A1.in1 (pyNext (.ref it) >>= _) _ _ s
    have hlen := rv.length
    refine wpAny_bind (wpAny_pyNext_list_end (by show A1.handled = none; exact hh) st pl.isList (by simp; omega) fun h' eb => ?_)
    exact wpAny_pure (fin _ (I.turned (t' := s.toks) (fun b o hb e => eb b o hb e) f0 f1 f3 f4 f5))
  | succ n ih =>
    intro j s hn hj I hf st
    have hlt : j < zs.length := by omega
    refine codeAny_builtin PySem.F.entry_extend_loop ?_
    rw [Around.under_plainId PySem.F.plain_extend_loop _]
    obtain ⟨its, rv, pl, hz'⟩ := I.list (sql_upd (o := .lst (zs.take j)) hl h0)
    obtain ⟨u, hu, ru⟩ := rv.get (List.getElem?_eq_getElem hlt)
    have hf' := hf
    obtain ⟨f0, f1, f2, f3, f4, f5⟩ := hf
    show wpAny _ A1.in1 (pyNext (.ref it) >>= _) _ _ s
    refine wpAny_bind (wpAny_pyNext_list_item st pl.isList (x := u) (by simpa using hu) fun h' st' sb => ?_)
    have I1 : Inv X pins σ (upd H0 q (.lst (zs.take j))) { s with heap := h' } := I.turned (t' := s.toks) (fun b o hb e => (sb.2 b hb).trans e) f0 f1 f3 f4 f5
    show wpAny _ A1.in1 (updateSeq q (·.push u) >>= _) _ _ _
    obtain ⟨z, us, k0, r2, hl2, e2⟩ := I1.lstM (l := q) upd_same
    have hus : us.length = j := by rw [← hl2, List.length_take]; omega
    refine wpAny_bind (wpAny_updateSeq e2 rfl (wpAny_pure ⟨plainId_quiet PySem.F.plain_extend_loop _, ?_⟩) (by rw [List.size_toArray]; omega) (by show (us.toArray.push u).size ≤ sizeLine + 1; rw [Array.size_push, List.size_toArray]; omega))
    have etk : zs.take (j + 1) = zs.take j ++ [zs[j]] := by rw [List.take_add_one, List.getElem?_eq_getElem hlt]; rfl
    have I2 := I1.lset (f := (·.push u)) (its' := us ++ [u]) (ys := zs.take (j + 1)) (t' := s.toks) upd_same e2 (by simp) (by rw [etk]; exact r2.append (.cons ru .nil)) (by rw [List.length_take]; omega)
    rw [upd_upd] at I2
    have hqi : it ≠ q := fun e => by rw [e, upd_same] at f0; cases f0
    refine ih (j + 1) _ (by omega) hlt I2 ⟨by rw [upd_ne hqi]; rw [upd_ne hqi] at f0; exact f0, f1, f2, f3, f4, f5⟩ ?_
    obtain ⟨o, ho, hc, hd⟩ := st'
    exact ⟨o, (Heap.get?_update_other h' (Obj.mapSeq (·.push u)) (Ne.symm hqi)).trans ho, hc, hd⟩
theorem cx0 {P : Program} {w : World} {outer : List Env} {H : Hp} {s : Shared} {e : Value} {s' : Shared} (h : L2.CX P w outer H s E0 e s') : False := by
  obtain ⟨_, _, _, _, _, _, _, _, _, _, _, _, z⟩ := h
  exact z
/-- the room that __len__ tells -/
theorem hint_len {A1 : Around} {Q : Bool → Shared → Prop} (hr : Room k A1.in1) (hA : A1.frames = some X.stack) (hl : LenC X.K C fl) (FL : FnR X.prog X.w X.K X.mg X.base (L2.CX X.prog X.w) k fl (spLen X.K C i))
    (I : Inv X pins σ H s) (hsl : SlX.Slt H a C dx sv) (hi : sv[i]? = some (some (.ref l))) (hq : SqL X.K H l zs) (hz : zs.length < sizeLine) (h : ∀ s' b, Inv X pins σ H s' → (∀ b o, s.heap.get? b = some o → H b = none → b ∉ frs X.stack → s'.heap.get? b = some o) → Q b s') :
    wpAny (model X.prog X.w) A1 (Builtin.List.listLengthHint (.ref a)) Q X.xe s := by
  obtain ⟨sl, od, rs, J, _⟩ := SlX.slt_inst I hsl
  obtain ⟨m, fr⟩ := I.fr
  have e0 : Env0 X.prog X.w X.K X.mg X.base A1.in1 X.stack s H := by
    have e := I.env0
    exact ⟨by show A1.frames = _; exact hA, e.mod, e.bs, e.bsz, e.funs, e.frf, e.hok, e.bare⟩
  have hsp : spLen X.K C i [.ref a] H (fun v H' => v = .int zs.length ∧ H' = H) E0 := ⟨a, dx, sv, l, zs, rfl, hsl, hi, hq, rfl, rfl⟩
  have hz63 : (zs.length : Int) < 2 ^ 63 := by have := line63; omega
  unfold Builtin.List.listLengthHint
  refine wpAny_bind (wpAny_bind (J.type.here ((PySem.W.looks_findIn I.kIn hl.at_).here ?_)))
  refine PySem.W.KFB.if_not rfl ?_
  refine PySem.W.KFB.if_so rfl ?_
  refine wpAny_bind (wpAny_rule (wpAny_bind (wpAny_attempt ?_)))
  refine PySem.W.len_K fr I.ok.mod.kin J hl.at_ hl.fn ?_
  refine wpAny_call (codeAny_mono (FL A1.in1 X.stack s H [.ref a] [.ref a] _ E0 hr e0 (.cons rfl .nil) hsp) fun rr s' hq' => ?_)
  rcases rr with e | f
  · exact (cx0 hq').elim
  · cases f with
    | ret u =>
      obtain ⟨v, H', os, bare, un, hok, rv, ev, eH⟩ := hq'
      subst ev
      rw [eH] at un hok
      obtain ⟨t, rfl⟩ := rv
      have I' : Inv X pins σ H s' := I.call' (ch := []) os un hok bare (fun b z => absurd z (by simp))
      refine ⟨⟨Int.natCast_nonneg _, hz63⟩, ?_⟩
      show wpAny _ _ _ _ _ _
      refine wpAny_bind (wpAny_pure ?_)
      show wpAny _ _ (if Builtin.List.listTooLong (zs.length : Int).toNat then _ else _) _ _ _
      rw [notLongL (by rw [Int.toNat_natCast]; omega), if_neg Bool.false_ne_true]
      exact wpAny_pure (h _ _ (I'.tok _) fun b o e1 e2 e3 => un.keep b o e1 e2 e3 (by simp))
    | _ => exact False.elim hq'
/-- list(o) -/
theorem call_listSl (hc : X.calm = true) (ci : IterC X.K C fi) (FI : FnS X.prog X.w X.K X.mg X.base (L2.CX X.prog X.w) k fi (spIter X.K C i)) (cl : LenC X.K C fl) (FL : FnR X.prog X.w X.K X.mg X.base (L2.CX X.prog X.w) k fl (spLen X.K C i))
    (hr : Room (k + 4) X.A) : CallR X (.type "list") (rListSl X.K C i) := by
  intro pins s σ H xs us Q I rv h
  obtain ⟨a, dx, sv, l, zs, rfl, hsl, hi, hl, hz, hq⟩ := h
  obtain ⟨u, rfl, ru⟩ := vals1 rv
  cases ru
  have hh : X.A.handled = none := I.ok.hd hc
  generalize eq0 : s.heap.objs.size = q at *
  have fr : H q = none := by rw [← eq0]; exact I.hok.fresh (Nat.le_refl _)
  refine callType_codes (Q₁ := fun obj s₁ => obj = .ref q ∧ s₁ = { s with heap := s.heap.push { cls := .type "list", data := .seq #[] } }) PySem.F.called_list (PySem.F.typeCall_list_1 _) PySem.F.entry_list_init
    (code_list_new _ ⟨by rw [eq0], rfl⟩) fun obj s₁ h₁ => ?_
  obtain ⟨rfl, rfl⟩ := h₁
  have hS : (s.heap.push { cls := .type "list", data := .seq #[] }).get? q = some { cls := .type "list", data := .seq #[] } := by rw [← eq0]; exact Heap.get?_push_size _ rfl
  refine ⟨⟨_, hS, rfl⟩, PySem.F.args_list_init_2 _ _, ?_⟩
  have I1 : Inv X pins σ (upd H q (.lst [])) { s with heap := s.heap.push { cls := .type "list", data := .seq #[] } } := by rw [← eq0]; exact I.lnew (its := []) (t' := s.toks) .nil (Nat.zero_le _)
  show wpAny _ _ (do let old ← Builtin.List.listItems (.ref q); Builtin.List.listUpdate (.ref q) (fun _ => #[]); letGo old.toList.reverse; Builtin.List.listExtendWith (.ref q) (.ref a) .none) _ _ _
  refine wpAny_bind ?_
  unfold Builtin.List.listItems
  refine wpAny_bind (wpAny_seqItems hS rfl (wpAny_pure ?_))
  refine wpAny_bind (m := updateSeq q (fun _ => #[])) (wpAny_updateSeq hS rfl ?_)
  have I2 := I1.lset (f := fun _ => #[]) (its := []) (its' := []) (ys := []) (t' := s.toks) upd_same hS rfl .nil (Nat.zero_le _)
  rw [upd_upd] at I2
  refine wpAny_bind (wpAny_letGo ?_)
  -- list.extend
  have hsl2 := slt_upd (o := .lst []) hsl fr
  have hl2 := sql_upd (o := .lst []) hl fr
  generalize ({ s with heap := (s.heap.push { cls := .type "list", data := .seq #[] }).update q (Obj.mapSeq fun _ => #[]) } : Shared) = s2 at I2 ⊢
  obtain ⟨sl, od, rs, J, _⟩ := SlX.slt_inst I2 hsl2
  obtain ⟨m, fr2⟩ := I2.fr
  unfold Builtin.List.listExtendWith
  refine wpAny_bind (J.type.here ?_)
  have hne : q ≠ a := fun e => by
    rcases hsl with ⟨z, _⟩ | ⟨z, _⟩ <;> (rw [← e, fr] at z; cases z)
  have g1 : Builtin.List.listSameRef (.ref q) (.ref a) = false := by simp [Builtin.List.listSameRef, hne]
  have g2 : (Value.ref C == Value.type "list") = false := rfl
  have g3 : (Value.ref C == Value.type "tuple") = false := rfl
  simp only [g1, g2, g3, Bool.or_false, Bool.false_eq_true, if_false]
  refine wpAny_bind (PySem.W.owit_iter fr2 I2.ok.mod.kin J ci.at_ ci.fn ?_)
  have hrA : Room k X.A.in1.in1 := (Room.in1 (Room.in1 (hr.mono (by omega : k + 2 ≤ k + 4))))
  have e0 : ∀ {H' : Hp} {s' : Shared}, Inv X pins σ H' s' → Env0 X.prog X.w X.K X.mg X.base X.A.in1.in1 X.stack s' H' := fun J' => by
    have e := J'.env0
    exact ⟨e.frames, e.mod, e.bs, e.bsz, e.funs, e.frf, e.hok, e.bare⟩
  have hsp : spIter X.K C i s2 [.ref a] (upd H q (.lst [])) (fun v H2 => ∃ it, v = .ref it ∧ (upd H q (.lst [])) it = none ∧ s2.heap.objs.size ≤ it ∧ H2 = upd (upd H q (.lst [])) it (ItO l it 0)) E0 := ⟨a, dx, sv, l, zs, rfl, hsl2, hi, hl2, fun it hn hs => ⟨it, rfl, hn, hs, rfl⟩⟩
  refine wpAny_call (codeAny_mono (FI X.A.in1.in1 X.stack s2 _ [.ref a] [.ref a] _ E0 hrA (e0 I2) (.cons rfl .nil) hsp) fun rr s3 hq' => ?_)
  rcases rr with e | f
  · exact (cx0 hq').elim
  · cases f with
    | ret v =>
      obtain ⟨y, H2, I3, ry, it, ey, hn, hs, eH⟩ := I2.after hq'
      subst ey
      cases ry
      have hi2 : H2 it = some (ItO l it 0) := by rw [eH, upd_same]
      have eo := itO_get I3 hi2
      have hT : s3.TypeIs (.ref it) "list_iterator" := ⟨_, eo, rfl⟩
      show PySem.W.OwitIt _ _ _ _ _ _
      unfold PySem.W.OwitIt
      refine wpAny_specialOf (name := Str.ofString "__next__") hT slot_listiter_next.lookup ?_
      have hi' := hi2
      unfold ItO at hi'
      have I4 := ItX.inv_drop I3 hi'
      have fp4 := ItX.inv_fp I3 hi2 (Nat.le_trans I2.sz hs)
      rw [eH, ItX.dropH_upd hn] at I4 fp4
      refine wpAny_bind (wpAny_holding (hint_len (A1 := X.A.in1.in1) (hr := (Room.in1 (Room.in1 (Room.in1 (hr.mono (by omega : k + 3 ≤ k + 4)))))) I4.ok.frames cl FL I4 hsl2 hi hl2 hz fun s5 b I5 kp => ?_))
      have st5 : s5.heap.IsListIter it l 0 := ⟨_, kp it _ eo fp4.1 (fun z => (List.mem_cons.mp (I4.stkSub it z)).elim fp4.2.1 fp4.2.2.1), rfl, rfl⟩
      obtain ⟨z6, its6, k6, r6, hl6, e6⟩ := I5.lstM (l := q) upd_same
      cases r6
      have goal : ∀ s7, Inv X pins σ (upd H q (.lst [])) s7 → s7.heap.IsListIter it l 0 → codeAny (model X.prog X.w) X.A.in1 (.builtin "list.extend.loop" ⟨[.ref q, .ref it, .none], []⟩) (wants (fun r s₂ => r = .none ∧ EP X pins σ Q (.ref q) s₂) X.xe) s7 := fun s7 I7 st7 =>
        fill_loop (H0 := H) (zs := zs) (by show X.A.handled = none; exact hh) hz fr hl (fun s8 I8 => ⟨rfl, .ref q, _, I8, rfl, hq q fr⟩) zs.length 0 s7 (by omega) (Nat.zero_le _) I7 fp4 st7
      refine wpAny_ite_split (fun _ => ?_) (fun _ => wpAny_pure ⟨plainId_quiet PySem.F.plain_extend_loop _, goal s5 I5 st5⟩)
      refine wpAny_bind (wpAny_rule (wpAny_bind ?_))
      show wpAny _ _ (updateSeq q (·.push .none) >>= fun _ => updateSeq q (·.pop)) _ _ _
      refine wpAny_bind (wpAny_updateSeq e6 rfl ?_)
      have J1 := I5.lset (f := (·.push Value.none)) (its' := [Value.none]) (ys := [.non]) (t' := s5.toks) upd_same e6 (by simp) (.cons rfl .nil) (by rw [List.length_singleton, sizeLine_eq]; decide)
      obtain ⟨z7, its7, k7, r7, hl7, e7⟩ := J1.lstM (l := q) upd_same
      obtain ⟨u7, rfl, ru7⟩ := r7.one
      refine wpAny_updateSeq e7 rfl ?_ (by show 1 ≤ sizeLine; rw [sizeLine_eq]; decide) (by show 0 ≤ sizeLine + 1; exact Nat.zero_le _)
      have J2 := J1.lset (f := (·.pop)) (its := [u7]) (its' := []) (ys := []) (t' := s5.toks) upd_same e7 (by rfl) .nil (Nat.zero_le _)
      rw [upd_upd, upd_upd] at J2
      have hqi : it ≠ q := fun e => by
        have z := fp4.1
        rw [e, upd_same] at z
        cases z
      obtain ⟨o, ho, hoc, hod⟩ := st5
      exact wpAny_pure ⟨plainId_quiet PySem.F.plain_extend_loop _, goal _ J2 ⟨o, (Heap.get?_update_other _ (Obj.mapSeq (·.pop)) (Ne.symm hqi)).trans ((Heap.get?_update_other s5.heap (Obj.mapSeq (·.push Value.none)) (Ne.symm hqi)).trans ho), hoc, hod⟩⟩
    | _ => exact False.elim hq'
end
end Pl

end

section
set_option Elab.async false
set_option linter.all false
set_option maxRecDepth 100000
set_option maxHeartbeats 2000000
/-! PlC: an own exception class below ValueError (through other own classes) whose __init__ says super().__init__(text) and stores its parameters. -/
namespace Pl
open PySem PySem.Spec PyProof.Rows L2

/-- what the written part says of such a class at C; its __init__ at fI, whose cell of __class__ is at cc, whose code object is at cda -/
structure XCls (P : Program) (K : PySem.W.Frag) (mg : Str → Option Value) (C fI cc cda : Addr) : Prop where
  cls : ∃ nm q N bs bm sn sub ab col dd k0 k1 k2 k3 k5, K.lookup C = some (excClassObj nm q C N bs bm true sn sub ab col dd k0 k1 k2 k3 k5 "ValueError.__new__") ∧ PySem.HandSPX.refsVE bm = true
  sa : PySem.W.findIn K (.ref C) "__setattr__" = some (some (.builtin "object.__setattr__"))
  iC : PySem.W.findIn K (.ref C) "__init__" = some (some (.ref fI))
  tC : PySem.W.typeIn K (.ref fI) = some (.type "function")
  kC : PySem.W.keepIn K (.ref C) = true
  exC : PySem.W.subIn K (.ref C) (.type "BaseException") = some true
  tyC : PySem.W.typeIn K (.ref C) = some (.type "type")
  cell : ∃ cl cld csl, K.lookup cc = some ⟨cl, cld, .cell (some (.ref C)), csl⟩
  code : ∃ ccl cdd vs ccs file tf, K.lookup cda = some ⟨ccl, cdd, .fields vs, ccs⟩ ∧ vs[2]? = some (.str file tf) ∧ ((P.main.file : Str) == file) = true
  sub : PySem.W.mroIn K C (.ref C) = some true
  opq : PySem.W.nsIn K cStatics "thirdparty.any" = some none
  sup : PySem.W.ks_superIn K C C "__init__" = some (some (.builtin "ValueError.__init__"))
  subV : PySem.W.subIn K (.ref C) (.type "ValueError") = some true
  nosup : mg "super" = none
  top : (P.main.scope.names.lookup ("super" : Str)).isSome = false
section
variable {P : Program} {w : World} {A : Around} {E : Value → Shared → Prop} {s : Shared} {K : PySem.W.Frag} {mg : Str → Option Value} {C fI cc cda x t0 : Addr} {base : Heap}
theorem bw_call {u e t0 : Addr} {rest : List Value} {Q : Value → Shared → Prop} {hh : Heap} {g : Array GenState} {d : Drawn} {tk : Nat} {os : OsState} {nm q : Str} {N : Addr} {bs bm : List Value} {hdct : Bool} {sn : List Str} {sub : List Value} {ab : Bool} {col : Option Bool} {dd : Option Addr}
    {k0 k1 k2 k3 k5 : Option Value} (hC : hh.get? C = some (excClassObj nm q C N bs bm hdct sn sub ab col dd k0 k1 k2 k3 k5 "ValueError.__new__")) (he : hh.get? e = some (PySem.HandSPX.excO C t0)) (hu : hh.get? u = some (PySem.W.kxs_mw "ValueError.__init__" e)) (hz : rest.length ≤ sizeLine)
    (hq : ∀ h' t1, (∀ b o, b ≠ e → hh.get? b = some o → h'.get? b = some o) → h'.get? e = some (PySem.HandSPX.excO C t1) → Q .none ⟨h', g, d, tk, os⟩) :
    wpAny (model P w) A (call (.ref u) rest) Q E ⟨hh, g, d, tk, os⟩ := by
  refine wpAny_call (codeAny_of_tree ?_)
  show wpAny _ A.in1 (callAny (.ref u) ⟨rest, []⟩) _ _ _
  simp only [callAny]
  refine wpAny_bind (wpAny_load hu ?_)
  simp only [PySem.W.kxs_mw, show (Value.type "method-wrapper" == Value.type "method" || Value.type "method-wrapper" == Value.type "builtin_function_or_method" || Value.type "method-wrapper" == Value.type "method-wrapper") = true by decide, if_true]
  refine PySem.W.KFB.if_so (by decide) ?_
  refine wpAny_bind (PySem.W.check_bound_init F.excBase_ValueError.toExcCallFacts hC he rfl ?_)
  refine wpAny_bind (wpAny_pure (wpAny_pure ?_))
  refine ⟨plainId_quiet F.excBase_ValueError.init.plain _, codeAny_builtin F.excBase_ValueError.initEntry ?_⟩
  refine PySem.W.exc_init_tree (cls := .ref C) (t0 := t0) (dv := none) (c2 := .none) (c3 := .none) (b4 := .bool false) he hz fun h' kp e' _ => ?_
  exact hq h' _ kp e'
theorem boot_super : bootBuiltins "super" = some (.type "super") := by first | rfl | decide +kernel
theorem sup_stmt {body : List Stmt} {env : Env} {fd : FuncData} {oc : Value} {od : Option Addr} {osl : Array (Option Value)} {ar : Arg} {m : Str → Option Value} {p0 p1 p2 p3 p4 p5 : Pos} {tx : Str} {j : Nat} {Q : Flow → Shared → Prop}
    (T : XCls P K mg C fI cc cda) (X : K.In s.heap) (G : s.heap.Ns mainGlobals mg) (B : ∃ mb, s.heap.Ns builtinsNs mb ∧ ∀ y : Str, y ≠ "__name__" → mb y = bootBuiltins y)
    (hf : K.lookup fI = some ⟨oc, od, .func fd, osl⟩) (hp : (fd.params.posonlyargs ++ fd.params.args).head? = some ar) (he : env.globals = mainGlobals) (heb : env.builtins = builtinsNs) (hef : env.func = some fI) (hec : env.code = .ref cda)
    (hcell : env.cells.lookup ("__class__" : Str) = some cc) (hk : env.scope.kind = .function) (hks : env.kindOf "super" = some .globalImplicit) (hkc : env.kindOf "__class__" = some .free) (hka : env.kindOf ar.arg = some .local)
    (hn : s.heap.Ns env.locals m) (hv : m ar.arg = some (.ref x)) (hx : s.heap.get? x = some (PySem.HandSPX.excO C t0)) (hsw : interactive env = false) {pl : Sem Bool}
    (hmc : eval (.Call (.Attribute (.Call (.Name "super" p0) [] [] p1) "__init__" p2) [.Constant (.str tx) j p3] [] p4) env = (do
      let ov ← attributeBase (.Call (.Name "super" p0) [] [] p1) "__init__" env (eval (.Call (.Name "super" p0) [] [] p1) env)
      standAt p2.atName
      let (f, first) ← holding [ov] (getMethod ov "__init__" pl)
      callWith p4 f first (backTo p4 (starEach [.Constant (.str tx) j p3] env)) []))
    (hss : swapsWith (.Call (.Attribute (.Call (.Name "super" p0) [] [] p1) "__init__" p2) [.Constant (.str tx) j p3] [] p4) none p5.line env = pure false)
    (hq : ∀ h' tk t1, (∀ b o, b ≠ x → s.heap.get? b = some o → h'.get? b = some o) → h'.get? x = some (PySem.HandSPX.excO C t1) → Q .next { s with heap := h', toks := tk }) :
    PySem.wpAt (model P w) A (.func body env) (exec (.Expr (.Call (.Attribute (.Call (.Name "super" p0) [] [] p1) "__init__" p2) [.Constant (.str tx) j p3] [] p4) p5) env) Q E s := by
  obtain ⟨nm, q, N, bs, bm, sn, sub, ab, col, dd, k0, k1, k2, k3, k5, hC, hbm⟩ := T.cls
  obtain ⟨cl, cld, csl, hcc⟩ := T.cell
  obtain ⟨ccl, cdd, vs, ccs, file, tf, hcda, hvs, hfile⟩ := T.code
  obtain ⟨mb, Bn, Bb⟩ := B
  obtain ⟨hh, g, d, t, os⟩ := s
  have J : PySem.W.InstAt hh x (PySem.HandSPX.excO C t0) C none := ⟨hx, rfl, rfl, trivial⟩
  refine PySem.ks_wpAt_Expr_any (PySem.ks_wpAt_MethodCall ?_ hmc) hsw hss
  refine PySem.ks_wpAt_super_base hks hkc rfl hef (X _ _ hf) rfl hp hec (X _ _ hcda) rfl hvs hfile T.top ?_
  refine PySem.W.ks_loadName_global hk hks (Calls.loadGlobal_builtin (by rw [he]; exact G) T.nosup (by rw [heb]; exact Bn) ((Bb _ (by decide +kernel)).trans boot_super) ⟨rfl, ?_⟩)
  refine wpAny_loadName_free hk hkc hcell ⟨_, X _ _ hcc, rfl⟩ ?_
  refine wpAny_loadName_local hk hka hn hv ?_
  refine PySem.ks_wpAny_isType_cls (X _ _ hC) rfl ⟨rfl, ?_⟩
  refine PySem.ks_wpAny_call_super (X _ _ hC) rfl hx rfl (fun c e => by cases e) (PySem.W.looks_mroIn X T.sub) (fun h1 e1 kp1 => ?_)
  -- getMethod
  have X1 : K.In h1 := X.keeps kp1
  have J1 : PySem.W.InstAt h1 x (PySem.HandSPX.excO C t0) C none := ⟨kp1 _ _ hx, rfl, rfl, trivial⟩
  have hsup := T.sup
  unfold PySem.W.ks_superIn at hsup
  cases hc : PySem.W.clsIn K C with
  | none => rw [hc] at hsup; cases hsup
  | some cd =>
    rw [hc] at hsup
    refine PySem.W.kxs_getMethod PySem.W.kxs_ValueError e1 (PySem.W.looks_opaque X1 T.opq) (l₀ := cd.mro) (fun A Q E s kk q => wpAny_bind ((PySem.W.looks_clsIn X1 hc) A _ E s kk (wpAny_pure q))) rfl X1 hsup (J1.type.andThen (PySem.W.looks_subIn X1 T.subV)) (PySem.W.ks_ne X1 J1 hc) rfl ?_
    refine PySem.W.kxs_callWith (i := "ValueError.__init__") (x := x) rfl (PySem.Calls.evalArgs_plain (PySem.Calls.spliced_cons (PySem.Calls.Constant_str (pos := p3) (k := j) (PySem.Calls.spliced_nil ?_))))
    have up : ∀ b o, h1.get? b = some o → (h1.push (PySem.W.kxs_mw "ValueError.__init__" x)).get? b = some o := fun b o e => Heap.get?_push_of_some _ e
    have hu : (h1.push (PySem.W.kxs_mw "ValueError.__init__" x)).get? h1.objs.size = some (PySem.W.kxs_mw "ValueError.__init__" x) := Heap.get?_push_at rfl rfl
    refine ⟨hu, bw_call (up _ _ (X1 _ _ hC)) (up _ _ (kp1 _ _ hx)) hu (by show 1 ≤ sizeLine; rw [sizeLine_eq]; decide) fun h' t1 kp2 e2 => ?_⟩
    exact hq h' _ t1 (fun b o hb e => kp2 b o hb (up b o (kp1 b o e))) e2
end
end Pl

end

section
set_option Elab.async false
set_option linter.all false
set_option maxRecDepth 100000
set_option maxHeartbeats 2000000
namespace Pl
open PySem PySem.Spec PyProof.Rows L2

def xSup (tx : Str) (j : Nat) (p0 p1 p2 p3 p4 p5 : Pos) : Stmt := .Expr (.Call (.Attribute (.Call (.Name "super" p0) [] [] p1) "__init__" p2) [.Constant (.str tx) j p3] [] p4) p5
def xPut (f : Str) (q1 q2 q3 q4 : Pos) : Stmt := .Assign [.Attribute (.Name "self" q1) f q2] (.Name f q3) q4
def xArg (x : Str) (p : Pos) : Arg := { arg := x, annotation := none, pos := p }
def xPar (as : List Arg) : Arguments := { posonlyargs := [], args := as, vararg := none, kwonlyargs := [], kw_defaults := [], kwarg := none, defaults := [] }
def xSc (fs : List Str) : Scope := { kind := .function, names := (PySem.Str.ofString "self", .local) :: fs.map (fun f => (f, .local)) ++ [(PySem.Str.ofString "__class__", .free), (PySem.Str.ofString "super", .globalImplicit)], isGenerator := false, isCoroutine := false, more := [] }
/-- the super().__init__(..) of the text is a method's call in one line -/
def SupOk (tx : Str) (j : Nat) (p0 p1 p2 p3 p4 p5 : Pos) : Prop := ∀ env : Env, env.scope.kind = .function → (∃ pl, eval (.Call (.Attribute (.Call (.Name "super" p0) [] [] p1) "__init__" p2) [.Constant (.str tx) j p3] [] p4) env = (do
      let ov ← attributeBase (.Call (.Name "super" p0) [] [] p1) "__init__" env (eval (.Call (.Name "super" p0) [] [] p1) env)
      standAt p2.atName
      let (f, first) ← holding [ov] (getMethod ov "__init__" pl)
      callWith p4 f first (backTo p4 (starEach [.Constant (.str tx) j p3] env)) [])) ∧
    swapsWith (.Call (.Attribute (.Call (.Name "super" p0) [] [] p1) "__init__" p2) [.Constant (.str tx) j p3] [] p4) none p5.line env = pure false
/-- what __init__ leaves of a fresh exception at x: its own dict at dx holds g -/
structure XEnd (h h' : Heap) (x C dx t1 : Addr) (g : Str → Option Value) : Prop where
  keep : ∀ b o, b ≠ x → h.get? b = some o → h'.get? b = some o
  obj : h'.get? x = some { cls := .ref C, dict := some dx, data := .fields #[.ref t1, .none, .none, .none, .bool false, .none] }
  dbig : h.objs.size ≤ dx
  dne : dx ≠ x
  ns : h'.Ns1 dx g
/-- __init__'s function object -/
structure XFn (K : PySem.W.Frag) (fI cc cda : Addr) (as : List Arg) (body : List Stmt) (sc : Scope) : Prop where
  ex : ∃ oc od qual doc pm an ct osl, K.lookup fI = some ⟨oc, od, .func (PySem.W.ksFn "__init__" qual (xPar as) body sc .none .none doc pm an (.ref cda) ct cc), osl⟩ ∧ PySem.W.codeIn K (.ref cda) qual = true
section
variable {P : Program} {w : World} {A : Around} {E : Value → Shared → Prop} {R : Result → Shared → Prop} {s : Shared} {K : PySem.W.Frag} {mg : Str → Option Value} {C fI cc cda x t0 : Addr} {f1 f2 tx : Str} {j : Nat} {p0 p1 p2 p3 p4 p5 a0 a1 a2 q1 q2 q3 q4 r1 r2 r3 r4 : Pos} {v1 v2 : Value}
theorem nsK {h h' : Heap} {L : Addr} {m : Str → Option Value} (k : ∀ b o, h.get? b = some o → h'.get? b = some o) (n : h.Ns L m) : h'.Ns L m := by
  obtain ⟨o, es, ep, e, r⟩ := n
  exact ⟨o, es, ep, k _ _ e, r⟩
theorem xs_self {fs : List Str} : (xSc fs).names.lookup ("self" : Str) = some .local := by
  show List.lookup ("self" : Str) ((("self" : Str), NameKind.local) :: _) = _
  rw [List.lookup_cons_self]
theorem lk_ne {α : Type} {x y : Str} {v : α} {l : List (Str × α)} (h : x ≠ y) : List.lookup x ((y, v) :: l) = List.lookup x l := by
  have e : (x == y) = false := by simpa using h
  simp [List.lookup, e]
theorem xs_f1 (h : f1 ≠ "self") : (xSc [f1]).names.lookup f1 = some .local := by
  show List.lookup f1 ((("self" : Str), NameKind.local) :: (f1, NameKind.local) :: _) = _
  rw [lk_ne h, List.lookup_cons_self]
theorem xs_super (h1 : f1 ≠ "super") : (xSc [f1]).names.lookup ("super" : Str) = some .globalImplicit := by
  show List.lookup ("super" : Str) ((("self" : Str), NameKind.local) :: (f1, NameKind.local) :: (("__class__" : Str), NameKind.free) :: (("super" : Str), NameKind.globalImplicit) :: []) = _
  rw [lk_ne (by decide), lk_ne (Ne.symm h1), lk_ne (by decide), List.lookup_cons_self]
theorem xs_class (h1 : f1 ≠ "__class__") : (xSc [f1]).names.lookup ("__class__" : Str) = some .free := by
  show List.lookup ("__class__" : Str) ((("self" : Str), NameKind.local) :: (f1, NameKind.local) :: (("__class__" : Str), NameKind.free) :: (("super" : Str), NameKind.globalImplicit) :: []) = _
  rw [lk_ne (by decide), lk_ne (Ne.symm h1), List.lookup_cons_self]
theorem x1_init (T : XCls P K mg C fI cc cda) (F : XFn K fI cc cda [xArg "self" a0, xArg f1 a1] [xSup tx j p0 p1 p2 p3 p4 p5, xPut f1 q1 q2 q3 q4] (xSc [f1])) (so : SupOk tx j p0 p1 p2 p3 p4 p5) (no1 : PySem.W.findIn K (.ref C) f1 = some none)
    (hf1 : f1 ≠ "self") (hf2 : f1 ≠ "super") (hf3 : f1 ≠ "__class__") (hf4 : (f1 == ("__debug__" : Str)) = false) (hnx : K.lookup x = none) (X : K.In s.heap) (G : s.heap.Ns mainGlobals mg) (B : ∃ mb, s.heap.Ns builtinsNs mb ∧ ∀ y : Str, y ≠ "__name__" → mb y = bootBuiltins y) (hlim : s.heap.NoLimit) (hx : s.heap.get? x = some (PySem.HandSPX.excO C t0)) (hroom : A.depth < recursionLimit)
    (hb : ∀ qual doc pm an ct, BindsTo s (PySem.W.ksFn "__init__" qual (xPar [xArg "self" a0, xArg f1 a1]) [xSup tx j p0 p1 p2 p3 p4 p5, xPut f1 q1 q2 q3 q4] (xSc [f1]) .none .none doc pm an (.ref cda) ct cc) ⟨[.ref x, v1], []⟩ [("self", .ref x), (f1, v1)])
    (hq : ∀ h' tk dx t1, XEnd s.heap h' x C dx t1 (fun y => if y = f1 then some v1 else none) → R (.ok (.ret .none)) { s with heap := h', toks := tk }) :
    codeAny (model P w) A (.call (.ref fI) ⟨[.ref x, v1], []⟩) R s := by
  obtain ⟨oc, od, qual, doc, pm, an, ct, osl, hf, hcd⟩ := F.ex
  obtain ⟨nm, q, N, bs, bm, sn, sub, ab, col, dd, k0, k1, k2, k3, k5, hC, hbm⟩ := T.cls
  have hcl : PySem.W.clsIn K C = some { name := nm, bases := bs, mro := .ref C :: bm, ns := N, qualname := q, hasDict := true, slotNames := sn, subclasses := sub, abstract := ab, collection := col, hasDel := false } := by unfold PySem.W.clsIn; rw [hC] <;> rfl
  refine PySem.ks_codeAny_call_defAt (binds := [("self", .ref x), (f1, v1)]) hroom (X _ _ hf) rfl hlim (PySem.W.codeRec_of X hcd) rfl (hb _ _ _ _ _) ?_ ?_ (fun h₀ hns kp => ?_)
  · intro y hy
    have : y = (PySem.Str.ofString "self", .local) ∨ y = (f1, .local) ∨ y = (PySem.Str.ofString "__class__", .free) ∨ y = (PySem.Str.ofString "super", .globalImplicit) := by simpa [xSc] using hy
    rcases this with e | e | e | e <;> (rw [e]; exact fun z => nomatch z)
  · intro y hy
    have : y = (("self" : Str), .ref x) ∨ y = (f1, v1) := by simpa using hy
    rcases this with e | e
    · rw [e]; exact xs_self
    · rw [e]; exact xs_f1 hf1
  · have kin : K.In h₀ := X.keeps kp
    have hxL : s.heap.objs.size ≠ x := Nat.ne_of_gt (Heap.lt_size hx)
    obtain ⟨⟨pl, hmc⟩, hss⟩ := so (callEnv (PySem.W.ksFn "__init__" qual (xPar [xArg "self" a0, xArg f1 a1]) [xSup tx j p0 p1 p2 p3 p4 p5, xPut f1 q1 q2 q3 q4] (xSc [f1]) .none .none doc pm an (.ref cda) ct cc) s.heap.objs.size fI) rfl
    refine PySem.ks_wpAt_execs_cons (sup_stmt (ar := xArg "self" a0) (m := fun y => ([("self", Value.ref x), (f1, v1)] : List (Str × Value)).reverse.lookup y) (x := x) (t0 := t0) (s := { s with heap := h₀, toks := s.toks + 2 }) T kin (nsK kp G) ?_ hf rfl rfl rfl rfl rfl rfl rfl (xs_super hf2) (xs_class hf3) xs_self hns ?_ (kp _ _ hx) rfl hmc hss ?_)
    · obtain ⟨mb, b1, b2⟩ := B
      exact ⟨mb, nsK kp b1, b2⟩
    · show List.lookup ("self" : Str) ((f1, v1) :: (("self" : Str), Value.ref x) :: []) = _
      rw [lk_ne (Ne.symm hf1), List.lookup_cons_self]
    · intro h1 tk1 t1 k1' hx1
      have nL : h1.Ns s.heap.objs.size (fun y => ([("self", Value.ref x), (f1, v1)] : List (Str × Value)).reverse.lookup y) := by
        obtain ⟨o, es, ep, e, r⟩ := hns
        exact ⟨o, es, ep, k1' _ _ hxL e, r⟩
      have kin1 : K.In h1 := fun b o e => k1' b o (fun z => by
        rw [z, hnx] at e
        cases e) (kin b o e)
      show PySem.wpAt _ _ _ (execs [xPut f1 q1 q2 q3 q4] _) _ _ _
      refine PySem.ks_wpAt_execs_cons (PySem.ks_wpAt_Assign_Attr ?_ ?_)
      · refine PySem.wpAt_of_wpAny ?_
        refine ldc (v := v1) (by rfl) (by exact xs_f1 hf1) nL (by show List.lookup f1 ((f1, v1) :: _) = some v1; rw [List.lookup_cons_self]) ?_ hf4
        refine ldc (v := .ref x) (by rfl) (by exact xs_self) nL (by show List.lookup ("self" : Str) ((f1, v1) :: (("self" : Str), Value.ref x) :: []) = some (.ref x); rw [lk_ne (Ne.symm hf1), List.lookup_cons_self]) ?_ (by decide)
        refine PySem.W.set_plain kin1 (ox := PySem.HandSPX.excO C t1) (od := none) ⟨hx1, rfl, rfl, trivial⟩ T.sa ?_
        refine PySem.HandSPX.exc_osa kin1 hx1 hcl (show PySem.HandSPX.refsVE (.ref C :: bm) = true from hbm) rfl no1 (fun h3 tk3 dx k3 dn dne hx3 hn3 => ?_)
        show PySem.wpAt _ _ _ (execs [] _) _ _ _
        refine PySem.wpAt_of_wpAny (wpAny_execs_nil (hq h3 tk3 dx t1 ⟨fun b o hb e => k3 b o hb (k1' b o hb (kp b o e)), hx3, ?_, dne, hn3⟩))
        have z : s.heap.objs.size < h1.objs.size := nL.lt
        exact Nat.le_trans (Nat.le_of_lt z) dn
      · rfl
/-- all that is known of such a class and its __init__ of one field -/
structure X1 (P : Program) (K : PySem.W.Frag) (mg : Str → Option Value) (xn f1 : Str) (C fI cc cda : Addr) (tx : Str) (j : Nat) (a0 a1 p0 p1 p2 p3 p4 p5 q1 q2 q3 q4 : Pos) : Prop where
  T : XCls P K mg C fI cc cda
  F : XFn K fI cc cda [xArg "self" a0, xArg f1 a1] [xSup tx j p0 p1 p2 p3 p4 p5, xPut f1 q1 q2 q3 q4] (xSc [f1])
  so : SupOk tx j p0 p1 p2 p3 p4 p5
  no1 : PySem.W.findIn K (.ref C) f1 = some none
  n1 : f1 ≠ "self"
  n2 : f1 ≠ "super"
  n3 : f1 ≠ "__class__"
  n4 : (f1 == ("__debug__" : Str)) = false
  bd : ∀ x v qual doc pm an ct, bindArgs (PySem.W.ksFn "__init__" qual (xPar [xArg "self" a0, xArg f1 a1]) [xSup tx j p0 p1 p2 p3 p4 p5, xPut f1 q1 q2 q3 q4] (xSc [f1]) .none .none doc pm an (.ref cda) ct cc) ⟨[.ref x, v], []⟩ = pure [(("self" : Str), .ref x), (f1, v)]
  gC : mg xn = some (.ref C)
/-- a made exception -/
structure XMade (h h' : Heap) (e C d : Addr) (g : Str → Option Value) : Prop where
  keep : ∀ b o, h.get? b = some o → h'.get? b = some o
  new : h.objs.size ≤ e
  obj : ∃ oe vs, h'.get? e = some oe ∧ oe.cls = .ref C ∧ oe.dict = some d ∧ oe.data = .fields vs ∧ vs[1]? = some .none
  dbig : h.objs.size ≤ d
  dne : d ≠ e
  ns : h'.Ns1 d g
theorem x1_made {xn : Str} (D : X1 P K mg xn f1 C fI cc cda tx j a0 a1 p0 p1 p2 p3 p4 p5 q1 q2 q3 q4) (X : K.In s.heap) (G : s.heap.Ns mainGlobals mg) (B : ∃ mb, s.heap.Ns builtinsNs mb ∧ ∀ y : Str, y ≠ "__name__" → mb y = bootBuiltins y) (hlim : s.heap.NoLimit) (hroom : A.depth + 1 < recursionLimit)
    (hq : ∀ h' tk e d, XMade s.heap h' e C d (fun y => if y = f1 then some v1 else none) → R (.ok (.ret (.ref e))) { s with heap := h', toks := tk }) :
    codeAny (model P w) A (.call (.ref C) ⟨[v1], []⟩) R s := by
  obtain ⟨nm, q, N, bs, bm, sn, sub, ab, col, dd, k0, k1, k2, k3, k5, hC, hbm⟩ := D.T.cls
  obtain ⟨hp, g, dr, tk, os⟩ := s
  have kp : ∀ b o, hp.get? b = some o → ((hp.push (PySem.W.kdv_tup [v1])).push (PySem.HandSPX.excO C hp.objs.size)).get? b = some o := fun b o e => Heap.get?_push_of_some _ (Heap.get?_push_of_some _ e)
  have hget : ((hp.push (PySem.W.kdv_tup [v1])).push (PySem.HandSPX.excO C hp.objs.size)).get? (hp.objs.size + 1) = some (PySem.HandSPX.excO C hp.objs.size) := by heap_get
  have hnx : K.lookup (hp.objs.size + 1) = none := by
    cases e : K.lookup (hp.objs.size + 1) with
    | none => rfl
    | some o => exact absurd (Nat.lt_of_succ_lt (Heap.lt_size (show hp.get? (hp.objs.size + 1) = some o from X _ _ e))) (Nat.lt_irrefl _)
  refine PySem.HandSPX.call_own F.excBase_ValueError (fun X => PySem.HandSPX.refsVE_contains X bm hbm) (X _ _ hC) (PySem.W.looks_findIn X D.T.iC) (fun self => PySem.W.bind_fn X self D.T.tC) (by show 1 ≤ sizeLine; rw [sizeLine_eq]; decide) ?_
  obtain ⟨mb, b1, b2⟩ := B
  refine x1_init (s := ⟨(hp.push (PySem.W.kdv_tup [v1])).push (PySem.HandSPX.excO C hp.objs.size), g, dr, tk, os⟩) D.T D.F D.so D.no1 D.n1 D.n2 D.n3 D.n4 hnx (X.keeps kp) (nsK kp G) ⟨mb, nsK kp b1, b2⟩ (hlim.keeps kp) hget ?_ (fun qual doc pm an ct => .of_eq (D.bd _ _ _ _ _ _ _)) fun h' tk' dx t1 ⟨k', hx, dn, dne, hns⟩ => ?_
  · show A.depth + 1 < recursionLimit
    exact hroom
  · have z : hp.objs.size + 1 + 1 ≤ dx := by
      have q := dn
      rw [show (((hp.push (PySem.W.kdv_tup [v1])).push (PySem.HandSPX.excO C hp.objs.size)).objs.size) = hp.objs.size + 1 + 1 by rw [Heap.size_push, Heap.size_push]] at q
      exact q
    exact ⟨rfl, hq h' tk' (hp.objs.size + 1) dx ⟨fun b o e => k' b o (Nat.ne_of_lt (Nat.lt_succ_of_lt (Heap.lt_size e))) (kp b o e), Nat.le_succ _, ⟨_, _, hx, rfl, rfl, rfl, rfl⟩, Nat.le_trans (Nat.le_trans (Nat.le_succ _) (Nat.le_succ _)) z, dne, hns⟩⟩
end
/-- xn(e): a new dict d with the field f1 -/
def tMkX1 (C : Addr) (f1 : Str) (ta : TA) : L2.St → Hp → XK → Prop := fun σ H Q => ta σ H fun vs H1 => ∃ v, vs = [v] ∧ ∀ d, H1 d = none → Q (.ref C) (some d) (upd H1 d (.xd [(f1, v)]))
section
variable {X : Cx} {C fI cc cda : Addr} {xn f1 tx : Str} {j k : Nat} {a0 a1 p0 p1 p2 p3 p4 p5 q1 q2 q3 q4 : Pos}
theorem relO_1 {v : V} {v' : Value} (r : RelV v v') (f : Str) : RelO (List.lookup f [(f1, v)]) (if f = f1 then some v' else none) := by
  by_cases h : f = f1
  · subst h
    rw [if_pos rfl, List.lookup_cons_self]
    exact r
  · rw [if_neg h, lk_ne h]
    trivial
theorem mk_made {pins : List (Addr × Obj)} {σ : L2.St} {H1 : Hp} {Q : XK} {hp h' : Heap} {g : Array GenState} {dr : Drawn} {tk tk' : Nat} {os : OsState} {e d : Addr} {fs : List (Str × V)} {gg : Str → Option Value} (exC : PySem.W.subIn X.K (.ref C) (.type "BaseException") = some true) (tyC : PySem.W.typeIn X.K (.ref C) = some (.type "type"))
    (I1 : Inv X pins σ H1 ⟨hp, g, dr, tk, os⟩) (M : XMade hp h' e C d gg) (r : ∀ f, RelO (fs.lookup f) (gg f)) (q : Q (.ref C) (some d) (upd H1 d (.xd fs))) : MkP X pins σ Q (.ref e) ⟨h', g, dr, tk', os⟩ := by
  obtain ⟨oe, fv, hoe, hc, hd, hdat, h1⟩ := M.obj
  obtain ⟨G, g1, g2⟩ := restrict h' fun b => decide (b ≠ e)
  have gk : ∀ b, b ≠ e → G.get? b = h'.get? b := fun b hb => g1 b (decide_eq_true hb)
  have ge : G.get? e = none := g2 e (by simp)
  have old : ∀ b o, hp.get? b = some o → G.get? b = some o := fun b o q => (gk b (Nat.ne_of_lt (Nat.lt_of_lt_of_le (Heap.lt_size q) M.new))).trans (M.keep b o q)
  have ob : ObjOk X.prog X.w (upd H1 d (.xd fs)) G d (.xd fs) := ⟨_, M.ns.at (fun o q => (gk d M.dne).trans q), r⟩
  have J : Inv X pins σ (upd H1 d (.xd fs)) ⟨G, g, dr, tk', os⟩ := I1.laid (t' := tk') old M.dbig ob
  refine ⟨e, oe, fv, ⟨G, g, dr, tk', os⟩, _, .ref C, some d, rfl, J, fun b o q => ?_, ge, hoe, ⟨hc, hd⟩, hdat, h1, ?_, rfl, I1.bare, raises_own exC tyC, q⟩
  · by_cases hb : b = e
    · have q' : G.get? b = some o := q
      rw [hb, ge] at q'
      cases q'
    · exact (gk b hb).symm.trans q
  · rw [upd_ne (Ne.symm M.dne)]
    exact I1.hok.fresh M.new
theorem pmk_x1 {a : Expr} {ta : TA} {p pos : Pos} (D : X1 X.prog X.K X.mg xn f1 C fI cc cda tx j a0 a1 p0 p1 p2 p3 p4 p5 q1 q2 q3 q4) (hr : Room k X.A) (hk : 1 ≤ k) (ha : PA X [a] ta) (hg : Gl X xn) (hdb : (xn == ("__debug__" : Str)) = false := by decide)
    (he : starEach (a :: []) X.env = (false, eval a X.env) :: starEach [] X.env := by rfl) (hpl : (backTo pos (starEach [] X.env)).any (·.1) = false := by rfl) : PMk X (.Call (.Name xn p) [a] [] pos) (tMkX1 C f1 ta) := by
  intro pins s σ H Q I h
  refine wpAny_Call_Name_kw (ld_glob I hg D.gC ?_ hdb)
  refine PySem.W.callWith_K (h₀ := X.base) I.ok.mod.kin D.T.kC (thn (ha.run pos pins s σ H _ I h) fun us s1 hh => ?_) he hpl
  obtain ⟨vs, H1, I1, r1, v, ev, q1⟩ := hh
  subst ev
  refine ⟨I1.kIn, ?_⟩
  cases r1 with
  | cons rv rn =>
    rename_i v' us'
    cases rn
    show wpAny _ _ (call (.ref C) [v']) _ _ _
    have hlim := I1.nolimit
    obtain ⟨mb, b1, b2⟩ := I1.mod.blt
    have B := b1.keeps I1.bk
    have G := I1.mod.glob.keeps I1.bk
    obtain ⟨hp, g, dr, tk, os⟩ := s1
    refine wpAny_call (x1_made D I1.kIn G ⟨mb, B, b2⟩ hlim (by have := hr.dp; omega) fun h' tk' e d M => ?_)
    exact mk_made D.T.exC D.T.tyC I1 M (relO_1 rv) (q1 d (I1.hok.fresh M.dbig))
/-- raise xn(e) -/
def tRaiseX1 (C : Addr) (f1 : Str) (W : WX) (ta : TA) : TS := fun _ σ H => tMkX1 C f1 ta σ H fun cls d H' => W cls d σ H'
theorem ps_raiseX1 {a : Expr} {ta : TA} {W : WX} {p pos pos2 : Pos} (hc : X.calm = true) (D : X1 X.prog X.K X.mg xn f1 C fI cc cda tx j a0 a1 p0 p1 p2 p3 p4 p5 q1 q2 q3 q4) (hr : Room k X.A) (hk : 1 ≤ k) (tk : Takes X W) (ha : PA X [a] ta) (hg : Gl X xn) (hdb : (xn == ("__debug__" : Str)) = false := by decide)
    (he : starEach (a :: []) X.env = (false, eval a X.env) :: starEach [] X.env := by rfl) (hpl : (backTo pos (starEach [] X.env)).any (·.1) = false := by rfl) :
    PS X (.Raise (some (.Call (.Name xn p) [a] [] pos)) none pos2) (tRaiseX1 C f1 W ta) := ps_raise hc tk (pmk_x1 D hr hk ha hg hdb he hpl)
end
end Pl

end

section
set_option Elab.async false
set_option linter.all false
set_option maxRecDepth 100000
set_option maxHeartbeats 2000000
/-! PlE: the same with two fields. -/
namespace Pl
open PySem PySem.Spec PyProof.Rows L2
section
variable {P : Program} {w : World} {A : Around} {E : Value → Shared → Prop} {R : Result → Shared → Prop} {s : Shared} {K : PySem.W.Frag} {mg : Str → Option Value} {C fI cc cda x t0 : Addr} {f1 f2 tx : Str} {j : Nat} {p0 p1 p2 p3 p4 p5 a0 a1 a2 q1 q2 q3 q4 r1 r2 r3 r4 : Pos} {v1 v2 : Value}
theorem xs2_f1 (h : f1 ≠ "self") : (xSc [f1, f2]).names.lookup f1 = some .local := by
  show List.lookup f1 ((("self" : Str), NameKind.local) :: (f1, NameKind.local) :: _) = _
  rw [lk_ne h, List.lookup_cons_self]
theorem xs2_f2 (h : f2 ≠ "self") (h2 : f2 ≠ f1) : (xSc [f1, f2]).names.lookup f2 = some .local := by
  show List.lookup f2 ((("self" : Str), NameKind.local) :: (f1, NameKind.local) :: (f2, NameKind.local) :: _) = _
  rw [lk_ne h, lk_ne h2, List.lookup_cons_self]
theorem xs2_super (h1 : f1 ≠ "super") (h2 : f2 ≠ "super") : (xSc [f1, f2]).names.lookup ("super" : Str) = some .globalImplicit := by
  show List.lookup ("super" : Str) ((("self" : Str), NameKind.local) :: (f1, NameKind.local) :: (f2, NameKind.local) :: (("__class__" : Str), NameKind.free) :: (("super" : Str), NameKind.globalImplicit) :: []) = _
  rw [lk_ne (by decide), lk_ne (Ne.symm h1), lk_ne (Ne.symm h2), lk_ne (by decide), List.lookup_cons_self]
theorem xs2_class (h1 : f1 ≠ "__class__") (h2 : f2 ≠ "__class__") : (xSc [f1, f2]).names.lookup ("__class__" : Str) = some .free := by
  show List.lookup ("__class__" : Str) ((("self" : Str), NameKind.local) :: (f1, NameKind.local) :: (f2, NameKind.local) :: (("__class__" : Str), NameKind.free) :: (("super" : Str), NameKind.globalImplicit) :: []) = _
  rw [lk_ne (by decide), lk_ne (Ne.symm h1), lk_ne (Ne.symm h2), List.lookup_cons_self]
/-- the names of two fields stand apart from the others and from one another -/
structure N2 (f1 f2 : Str) : Prop where
  n1 : f1 ≠ "self"
  n2 : f1 ≠ "super"
  n3 : f1 ≠ "__class__"
  n4 : (f1 == ("__debug__" : Str)) = false
  m1 : f2 ≠ "self"
  m2 : f2 ≠ "super"
  m3 : f2 ≠ "__class__"
  m4 : (f2 == ("__debug__" : Str)) = false
  d : f2 ≠ f1
def g2 (f1 f2 : Str) (v1 v2 : Value) : Str → Option Value := fun y => if y = f2 then some v2 else if y = f1 then some v1 else none
theorem x2_init (T : XCls P K mg C fI cc cda) (F : XFn K fI cc cda [xArg "self" a0, xArg f1 a1, xArg f2 a2] [xSup tx j p0 p1 p2 p3 p4 p5, xPut f1 q1 q2 q3 q4, xPut f2 r1 r2 r3 r4] (xSc [f1, f2])) (so : SupOk tx j p0 p1 p2 p3 p4 p5) (no1 : PySem.W.findIn K (.ref C) f1 = some none) (no2 : PySem.W.findIn K (.ref C) f2 = some none)
    (n : N2 f1 f2) (hnx : K.lookup x = none) (X : K.In s.heap) (G : s.heap.Ns mainGlobals mg) (B : ∃ mb, s.heap.Ns builtinsNs mb ∧ ∀ y : Str, y ≠ "__name__" → mb y = bootBuiltins y) (hlim : s.heap.NoLimit) (hx : s.heap.get? x = some (PySem.HandSPX.excO C t0)) (hroom : A.depth < recursionLimit)
    (hb : ∀ qual doc pm an ct, BindsTo s (PySem.W.ksFn "__init__" qual (xPar [xArg "self" a0, xArg f1 a1, xArg f2 a2]) [xSup tx j p0 p1 p2 p3 p4 p5, xPut f1 q1 q2 q3 q4, xPut f2 r1 r2 r3 r4] (xSc [f1, f2]) .none .none doc pm an (.ref cda) ct cc) ⟨[.ref x, v1, v2], []⟩ [("self", .ref x), (f1, v1), (f2, v2)])
    (hq : ∀ h' tk dx t1, XEnd s.heap h' x C dx t1 (g2 f1 f2 v1 v2) → R (.ok (.ret .none)) { s with heap := h', toks := tk }) :
    codeAny (model P w) A (.call (.ref fI) ⟨[.ref x, v1, v2], []⟩) R s := by
  obtain ⟨oc, od, qual, doc, pm, an, ct, osl, hf, hcd⟩ := F.ex
  obtain ⟨nm, q, N, bs, bm, sn, sub, ab, col, dd, k0, k1, k2, k3, k5, hC, hbm⟩ := T.cls
  have hcl : PySem.W.clsIn K C = some { name := nm, bases := bs, mro := .ref C :: bm, ns := N, qualname := q, hasDict := true, slotNames := sn, subclasses := sub, abstract := ab, collection := col, hasDel := false } := by unfold PySem.W.clsIn; rw [hC] <;> rfl
  refine PySem.ks_codeAny_call_defAt (binds := [("self", .ref x), (f1, v1), (f2, v2)]) hroom (X _ _ hf) rfl hlim (PySem.W.codeRec_of X hcd) rfl (hb _ _ _ _ _) ?_ ?_ (fun h₀ hns kp => ?_)
  · intro y hy
    have : y = (PySem.Str.ofString "self", .local) ∨ y = (f1, .local) ∨ y = (f2, .local) ∨ y = (PySem.Str.ofString "__class__", .free) ∨ y = (PySem.Str.ofString "super", .globalImplicit) := by simpa [xSc] using hy
    rcases this with e | e | e | e | e <;> (rw [e]; exact fun z => nomatch z)
  · intro y hy
    have : y = (("self" : Str), .ref x) ∨ y = (f1, v1) ∨ y = (f2, v2) := by simpa using hy
    rcases this with e | e | e
    · rw [e]; exact xs_self
    · rw [e]; exact xs2_f1 n.n1
    · rw [e]; exact xs2_f2 n.m1 n.d
  · have kin : K.In h₀ := X.keeps kp
    have hxL : s.heap.objs.size ≠ x := Nat.ne_of_gt (Heap.lt_size hx)
    have ls : List.lookup ("self" : Str) ((f2, v2) :: (f1, v1) :: (("self" : Str), Value.ref x) :: []) = some (.ref x) := by rw [lk_ne (Ne.symm n.m1), lk_ne (Ne.symm n.n1), List.lookup_cons_self]
    have l1 : List.lookup f1 ((f2, v2) :: (f1, v1) :: (("self" : Str), Value.ref x) :: []) = some v1 := by rw [lk_ne (Ne.symm n.d), List.lookup_cons_self]
    have l2 : List.lookup f2 ((f2, v2) :: (f1, v1) :: (("self" : Str), Value.ref x) :: []) = some v2 := by rw [List.lookup_cons_self]
    obtain ⟨⟨pl, hmc⟩, hss⟩ := so (callEnv (PySem.W.ksFn "__init__" qual (xPar [xArg "self" a0, xArg f1 a1, xArg f2 a2]) [xSup tx j p0 p1 p2 p3 p4 p5, xPut f1 q1 q2 q3 q4, xPut f2 r1 r2 r3 r4] (xSc [f1, f2]) .none .none doc pm an (.ref cda) ct cc) s.heap.objs.size fI) rfl
    refine PySem.ks_wpAt_execs_cons (sup_stmt (ar := xArg "self" a0) (m := fun y => ([("self", Value.ref x), (f1, v1), (f2, v2)] : List (Str × Value)).reverse.lookup y) (x := x) (t0 := t0) (s := { s with heap := h₀, toks := s.toks + 3 }) T kin (nsK kp G) ?_ hf rfl rfl rfl rfl rfl rfl rfl (xs2_super n.n2 n.m2) (xs2_class n.n3 n.m3) xs_self hns ls (kp _ _ hx) rfl hmc hss ?_)
    · obtain ⟨mb, b1, b2⟩ := B
      exact ⟨mb, nsK kp b1, b2⟩
    · intro h1 tk1 t1 k1' hx1
      have nL : h1.Ns s.heap.objs.size (fun y => ([("self", Value.ref x), (f1, v1), (f2, v2)] : List (Str × Value)).reverse.lookup y) := by
        obtain ⟨o, es, ep, e, r⟩ := hns
        exact ⟨o, es, ep, k1' _ _ hxL e, r⟩
      have nx : ∀ {h : Heap}, (∀ b o, b ≠ x → h₀.get? b = some o → h.get? b = some o) → K.In h := fun kk b o e => kk b o (fun z => by
        rw [z, hnx] at e
        cases e) (kin b o e)
      have kin1 : K.In h1 := nx k1'
      show PySem.wpAt _ _ _ (execs [xPut f1 q1 q2 q3 q4, xPut f2 r1 r2 r3 r4] _) _ _ _
      refine PySem.ks_wpAt_execs_cons (PySem.ks_wpAt_Assign_Attr ?_ (by rfl))
      refine PySem.wpAt_of_wpAny ?_
      refine ldc (v := v1) (by rfl) (by exact xs2_f1 n.n1) nL l1 ?_ n.n4
      refine ldc (v := .ref x) (by rfl) (by exact xs_self) nL ls ?_ (by decide)
      refine PySem.W.set_plain kin1 (ox := PySem.HandSPX.excO C t1) (od := none) ⟨hx1, rfl, rfl, trivial⟩ T.sa ?_
      refine PySem.HandSPX.exc_osa kin1 hx1 hcl (show PySem.HandSPX.refsVE (.ref C :: bm) = true from hbm) rfl no1 (fun h3 tk3 dx k3 dn dne hx3 hn3 => ?_)
      have kk3 : ∀ b o, b ≠ x → h₀.get? b = some o → h3.get? b = some o := fun b o hb e => k3 b o hb (k1' b o hb e)
      have kin3 : K.In h3 := nx kk3
      have nL3 : h3.Ns s.heap.objs.size (fun y => ([("self", Value.ref x), (f1, v1), (f2, v2)] : List (Str × Value)).reverse.lookup y) := by
        obtain ⟨o, es, ep, e, r⟩ := nL
        exact ⟨o, es, ep, k3 _ _ hxL e, r⟩
      show PySem.wpAt _ _ _ (execs [xPut f2 r1 r2 r3 r4] _) _ _ _
      refine PySem.ks_wpAt_execs_cons (PySem.ks_wpAt_Assign_Attr ?_ (by rfl))
      refine PySem.wpAt_of_wpAny ?_
      refine ldc (v := v2) (by rfl) (by exact xs2_f2 n.m1 n.d) nL3 l2 ?_ n.m4
      refine ldc (v := .ref x) (by rfl) (by exact xs_self) nL3 ls ?_ (by decide)
      have hw : Within (fun y => if y = f1 then some v1 else none) [f1] := fun y hy => by
        by_cases e : y = f1
        · rw [e]; exact List.mem_cons_self
        · exact absurd (if_neg e) hy
      obtain ⟨oD, _, _, hoD, _, _⟩ := hn3.count hw
      refine PySem.W.set_plain kin3 (ox := { cls := .ref C, dict := some dx, data := .fields #[.ref t1, .none, .none, .none, .bool false, .none] }) (od := some oD) ⟨hx3, rfl, rfl, hoD⟩ T.sa ?_
      refine PySem.OEX.osa_old kin3 hx3 hn3 hw (by show 1 ≤ 1000; decide) hcl (show PySem.HandSPX.refsVE (.ref C :: bm) = true from hbm) rfl no2 (fun h4 tk4 k4 hn4 => ?_)
      show PySem.wpAt _ _ _ (execs [] _) _ _ _
      have z : s.heap.objs.size < h1.objs.size := nL.lt
      have dL : ∀ b o, s.heap.get? b = some o → b ≠ dx := fun b o e => Nat.ne_of_lt (Nat.lt_of_lt_of_le (Heap.lt_size e) (Nat.le_trans (Nat.le_of_lt z) dn))
      refine PySem.wpAt_of_wpAny (wpAny_execs_nil (hq h4 tk4 dx t1 ⟨fun b o hb e => k4 b o (dL b o e) (kk3 b o hb (kp b o e)), k4 _ _ (Ne.symm dne) hx3, Nat.le_trans (Nat.le_of_lt z) dn, dne, hn4⟩))
/-- all that is known of such a class and its __init__ of two fields -/
structure X2 (P : Program) (K : PySem.W.Frag) (mg : Str → Option Value) (xn f1 f2 : Str) (C fI cc cda : Addr) (tx : Str) (j : Nat) (a0 a1 a2 p0 p1 p2 p3 p4 p5 q1 q2 q3 q4 r1 r2 r3 r4 : Pos) : Prop where
  T : XCls P K mg C fI cc cda
  F : XFn K fI cc cda [xArg "self" a0, xArg f1 a1, xArg f2 a2] [xSup tx j p0 p1 p2 p3 p4 p5, xPut f1 q1 q2 q3 q4, xPut f2 r1 r2 r3 r4] (xSc [f1, f2])
  so : SupOk tx j p0 p1 p2 p3 p4 p5
  no1 : PySem.W.findIn K (.ref C) f1 = some none
  no2 : PySem.W.findIn K (.ref C) f2 = some none
  n : N2 f1 f2
  bd : ∀ x v v' qual doc pm an ct, bindArgs (PySem.W.ksFn "__init__" qual (xPar [xArg "self" a0, xArg f1 a1, xArg f2 a2]) [xSup tx j p0 p1 p2 p3 p4 p5, xPut f1 q1 q2 q3 q4, xPut f2 r1 r2 r3 r4] (xSc [f1, f2]) .none .none doc pm an (.ref cda) ct cc) ⟨[.ref x, v, v'], []⟩ = pure [(("self" : Str), .ref x), (f1, v), (f2, v')]
  gC : mg xn = some (.ref C)
theorem x2_made {xn : Str} (D : X2 P K mg xn f1 f2 C fI cc cda tx j a0 a1 a2 p0 p1 p2 p3 p4 p5 q1 q2 q3 q4 r1 r2 r3 r4) (X : K.In s.heap) (G : s.heap.Ns mainGlobals mg) (B : ∃ mb, s.heap.Ns builtinsNs mb ∧ ∀ y : Str, y ≠ "__name__" → mb y = bootBuiltins y) (hlim : s.heap.NoLimit) (hroom : A.depth + 1 < recursionLimit)
    (hq : ∀ h' tk e d, XMade s.heap h' e C d (g2 f1 f2 v1 v2) → R (.ok (.ret (.ref e))) { s with heap := h', toks := tk }) :
    codeAny (model P w) A (.call (.ref C) ⟨[v1, v2], []⟩) R s := by
  obtain ⟨nm, q, N, bs, bm, sn, sub, ab, col, dd, k0, k1, k2, k3, k5, hC, hbm⟩ := D.T.cls
  obtain ⟨hp, g, dr, tk, os⟩ := s
  have kp : ∀ b o, hp.get? b = some o → ((hp.push (PySem.W.kdv_tup [v1, v2])).push (PySem.HandSPX.excO C hp.objs.size)).get? b = some o := fun b o e => Heap.get?_push_of_some _ (Heap.get?_push_of_some _ e)
  have hget : ((hp.push (PySem.W.kdv_tup [v1, v2])).push (PySem.HandSPX.excO C hp.objs.size)).get? (hp.objs.size + 1) = some (PySem.HandSPX.excO C hp.objs.size) := by heap_get
  have hnx : K.lookup (hp.objs.size + 1) = none := by
    cases e : K.lookup (hp.objs.size + 1) with
    | none => rfl
    | some o => exact absurd (Nat.lt_of_succ_lt (Heap.lt_size (show hp.get? (hp.objs.size + 1) = some o from X _ _ e))) (Nat.lt_irrefl _)
  refine PySem.HandSPX.call_own F.excBase_ValueError (fun X => PySem.HandSPX.refsVE_contains X bm hbm) (X _ _ hC) (PySem.W.looks_findIn X D.T.iC) (fun self => PySem.W.bind_fn X self D.T.tC) (by show 2 ≤ sizeLine; rw [sizeLine_eq]; decide) ?_
  obtain ⟨mb, b1, b2⟩ := B
  refine x2_init (s := ⟨(hp.push (PySem.W.kdv_tup [v1, v2])).push (PySem.HandSPX.excO C hp.objs.size), g, dr, tk, os⟩) D.T D.F D.so D.no1 D.no2 D.n hnx (X.keeps kp) (nsK kp G) ⟨mb, nsK kp b1, b2⟩ (hlim.keeps kp) hget ?_ (fun qual doc pm an ct => .of_eq (D.bd _ _ _ _ _ _ _ _)) fun h' tk' dx t1 ⟨k', hx, dn, dne, hns⟩ => ?_
  · show A.depth + 1 < recursionLimit
    exact hroom
  · have z : hp.objs.size + 1 + 1 ≤ dx := by
      have q := dn
      rw [show (((hp.push (PySem.W.kdv_tup [v1, v2])).push (PySem.HandSPX.excO C hp.objs.size)).objs.size) = hp.objs.size + 1 + 1 by rw [Heap.size_push, Heap.size_push]] at q
      exact q
    exact ⟨rfl, hq h' tk' (hp.objs.size + 1) dx ⟨fun b o e => k' b o (Nat.ne_of_lt (Nat.lt_succ_of_lt (Heap.lt_size e))) (kp b o e), Nat.le_succ _, ⟨_, _, hx, rfl, rfl, rfl, rfl⟩, Nat.le_trans (Nat.le_trans (Nat.le_succ _) (Nat.le_succ _)) z, dne, hns⟩⟩
end
/-- xn(e, e'): a new dict d with both fields -/
def tMkX2 (C : Addr) (f1 f2 : Str) (ta : TA) : L2.St → Hp → XK → Prop := fun σ H Q => ta σ H fun vs H1 => ∃ v v', vs = [v, v'] ∧ ∀ d, H1 d = none → Q (.ref C) (some d) (upd H1 d (.xd [(f2, v'), (f1, v)]))
section
variable {X : Cx} {C fI cc cda : Addr} {xn f1 f2 tx : Str} {j k : Nat} {a0 a1 a2 p0 p1 p2 p3 p4 p5 q1 q2 q3 q4 r1 r2 r3 r4 : Pos}
theorem relO_2 {v v' : V} {u u' : Value} (r : RelV v u) (r' : RelV v' u') (f : Str) : RelO (List.lookup f [(f2, v'), (f1, v)]) (g2 f1 f2 u u' f) := by
  unfold g2
  by_cases h : f = f2
  · subst h
    rw [if_pos rfl, List.lookup_cons_self]
    exact r'
  · rw [if_neg h, lk_ne h]
    exact relO_1 r f
theorem pmk_x2 {a b : Expr} {ta : TA} {p pos : Pos} (D : X2 X.prog X.K X.mg xn f1 f2 C fI cc cda tx j a0 a1 a2 p0 p1 p2 p3 p4 p5 q1 q2 q3 q4 r1 r2 r3 r4) (hr : Room k X.A) (hk : 1 ≤ k) (ha : PA X [a, b] ta) (hg : Gl X xn) (hdb : (xn == ("__debug__" : Str)) = false := by decide)
    (he : starEach (a :: [b]) X.env = (false, eval a X.env) :: starEach [b] X.env := by rfl) (hpl : (backTo pos (starEach [b] X.env)).any (·.1) = false := by rfl) : PMk X (.Call (.Name xn p) [a, b] [] pos) (tMkX2 C f1 f2 ta) := by
  intro pins s σ H Q I h
  refine wpAny_Call_Name_kw (ld_glob I hg D.gC ?_ hdb)
  refine PySem.W.callWith_K (h₀ := X.base) I.ok.mod.kin D.T.kC (thn (ha.run pos pins s σ H _ I h) fun us s1 hh => ?_) he hpl
  obtain ⟨vs, H1, I1, r1, v, v', ev, q1⟩ := hh
  subst ev
  refine ⟨I1.kIn, ?_⟩
  obtain ⟨u, u', rfl, rv, rv'⟩ := vals2 r1
  show wpAny _ _ (call (.ref C) [u, u']) _ _ _
  have hlim := I1.nolimit
  obtain ⟨mb, b1, b2⟩ := I1.mod.blt
  have B := b1.keeps I1.bk
  have G := I1.mod.glob.keeps I1.bk
  obtain ⟨hp, g, dr, tk, os⟩ := s1
  refine wpAny_call (x2_made D I1.kIn G ⟨mb, B, b2⟩ hlim (by have := hr.dp; omega) fun h' tk' e d M => ?_)
  exact mk_made D.T.exC D.T.tyC I1 M (relO_2 rv rv') (q1 d (I1.hok.fresh M.dbig))
/-- raise xn(e, e') -/
def tRaiseX2 (C : Addr) (f1 f2 : Str) (W : WX) (ta : TA) : TS := fun _ σ H => tMkX2 C f1 f2 ta σ H fun cls d H' => W cls d σ H'
theorem ps_raiseX2 {a b : Expr} {ta : TA} {W : WX} {p pos pos2 : Pos} (hc : X.calm = true) (D : X2 X.prog X.K X.mg xn f1 f2 C fI cc cda tx j a0 a1 a2 p0 p1 p2 p3 p4 p5 q1 q2 q3 q4 r1 r2 r3 r4) (hr : Room k X.A) (hk : 1 ≤ k) (tk : Takes X W) (ha : PA X [a, b] ta) (hg : Gl X xn) (hdb : (xn == ("__debug__" : Str)) = false := by decide)
    (he : starEach (a :: [b]) X.env = (false, eval a X.env) :: starEach [b] X.env := by rfl) (hpl : (backTo pos (starEach [b] X.env)).any (·.1) = false := by rfl) :
    PS X (.Raise (some (.Call (.Name xn p) [a, b] [] pos)) none pos2) (tRaiseX2 C f1 f2 W ta) := ps_raise hc tk (pmk_x2 D hr hk ha hg hdb he hpl)
end
end Pl

end

section
set_option Elab.async false
set_option linter.all false
set_option maxRecDepth 100000
set_option maxHeartbeats 4000000
/-! PlF: a set comprehension over ints. -/
namespace Pl
open PySem PySem.Spec PyProof.Rows L2

/-- one turn's end: y goes into the set at D -/
def addI (w : World) (D : Addr) (N : Hp → Prop) (y : V) (H : Hp) : Prop := ∃ (k : Int) (S : Int → Bool) (n : Nat), y = .int k ∧ H D = some (SetO w D S n) ∧ n + 1 < scanBound ∧ N (upd H D (SetO w D (fun j => S j || decide (j = k)) (if S k = true then n else n + 1)))
/-- one turn: the target, the tests, the element -/
def turnI (w : World) (g : TG) (tt : TT) (te : TE) (vs : List Nat) (σ : L2.St) (D : Addr) (N : Hp → Prop) (x : V) (H : Hp) : Prop :=
  g x (wipe σ vs) H fun σ2 H2 => wipe σ2 vs = wipe σ vs ∧ tt σ2 H2 fun b H3 => if b = true then te σ2 H3 (addI w D N) else N H3
/-- {elt for target in iter if ..}, elt an int: D the new set -/
def tScI (w : World) (wi : TI) (g : TG) (tt : TT) (te : TE) (vs : List Nat) : TE := fun σ H Q => wi σ H fun J H1 => ∀ D, H1 D = none → ∃ W : Nat → Nat → Hp → Prop, (∃ m, W 0 m (upd H1 D (SetO w D (fun _ => false) 0))) ∧
  ∀ i m H, W i m H → (J.stop i H ∧ Q (.ref D) H) ∨ (J.go i H ∧ ∃ N : Hp → Prop, (∀ H', N H' → ∃ m', m' < m ∧ W (i + 1) m' H') ∧ ∀ x H', J.yld i H x H' → turnI w g tt te vs σ D N x H')
section
variable {X : Cx}
theorem addI_ok {pins : List (Addr × Obj)} {σ : L2.St} {H : Hp} {s : Shared} {E : Value → Shared → Prop} {D : Addr} {N : Hp → Prop} {y : V} {u : Value} {Q : Value → Shared → Prop} (I : Inv X pins σ H s) (r : RelV y u) (h : addI X.w D N y H)
    (hq : ∀ s' H', Inv X pins σ H' s' → N H' → Q .none s') : wpAny (model X.prog X.w) X.A (call (.builtin "set.add") [.ref D, u]) Q E s := by
  obtain ⟨k, S, n, rfl, hD, room, hN⟩ := h
  obtain ⟨tk, rfl⟩ := r
  refine setR_add (setO_get I hD) room fun h' sb new => ?_
  obtain ⟨o, ho⟩ : ∃ o, h'.get? D = some o := by
    have ⟨o, _, _, _, ho, _⟩ := new
    exact ⟨o, ho⟩
  exact hq _ _ (I.write (e := D) (t' := s.toks + 1) (by rw [hD]; trivial) (.inl rfl) (fun b x hb hx => (sb.2 b hb).trans hx) ⟨o, ho⟩ (setO_new new)) hN
theorem pe_scI {elt tg iter : Expr} {ifs : List Expr} {scope : Scope} {own : List (PySem.Str × Nat)} {pos : Pos} {wi : TI} {g : TG} {tt : TT} {te : TE} (hc : X.calm = true) (hN : X.N.Nodup) (hi : PI X tg iter wi) (ok : BlkOk X.N X.env.scope scope own)
    (hg : ∀ (s : Shared) (H : Hp) (C : Addr) (cl : List (PySem.Str × Addr)) (fp : List Addr), PG (X.blk s H scope (compEnvC scope cl C X.env) fp) tg g) (ht : ∀ (s : Shared) (H : Hp) (C : Addr) (cl : List (PySem.Str × Addr)) (fp : List Addr), PTs (X.blk s H scope (compEnvC scope cl C X.env) fp) ifs tt)
    (he : ∀ (s : Shared) (H : Hp) (C : Addr) (cl : List (PySem.Str × Addr)) (fp : List Addr), PE (X.blk s H scope (compEnvC scope cl C X.env) fp) elt te) (hs : ∀ x, foldedSetIterable iter X.env x = pure x := by intro _; rfl) :
    PE X (.SetComp elt [⟨tg, iter, ifs, 0⟩] scope pos) (tScI X.w wi g tt te (own.map (·.2))) := by
  refine ⟨fun pins s σ H Q I h => ?_⟩
  rw [PpSet.eval_SetComp]
  have hfree : ∀ y ∈ scope.names, y.2 = .free → ∃ c, X.env.cells.lookup y.1 = some c := fun y hy e => (ok.free y hy e).elim (fun k => I.ok.has _ (.inl k)) fun k => I.ok.has _ (.inr k)
  refine wpAny_comprehension_free (use := none) rfl hs (closure_ok hfree) ok.kind (fun y hy e => by rw [ok.uniq y hy, e]) (thn (hi.run pins s σ H _ I h) fun xv s1 hx => thn hx fun itv s2 h2 => ?_)
  obtain ⟨it, fp, tn, J, H2, e, I2, T, st2, f2, q⟩ := h2
  subst e
  refine PpSet.newSet_ok (newEnv_comp ?_)
  generalize hD : s2.heap.objs.size = D
  have hDn : H2 D = none := I2.hok.fresh (Nat.le_of_eq hD)
  obtain ⟨W, ⟨m0, w0⟩, turn⟩ := q D hDn
  let O0 : Obj := { cls := .type "set", dict := none, data := .set #[] 0 (.fresh 0 0 (!X.w.params.followText "set-order")) }
  have kp3 : ∀ b o, s2.heap.get? b = some o → (s2.heap.push O0).get? b = some o := fun b o z => Heap.get?_push_of_some _ z
  have sz3 : (s2.heap.push O0).objs.size = s2.heap.objs.size + 1 := Heap.size_push _ _
  have I3 : Inv X pins σ (upd H2 D (SetO X.w D (fun _ => false) 0)) { s2 with heap := s2.heap.push O0 } :=
    I2.laid (t' := s2.toks) kp3 (Nat.le_of_eq hD) (by rw [← hD]; exact setO_new (setR_fresh X.w))
  have f3 : ∀ b ∈ fp, FpOk X pins (upd H2 D (SetO X.w D (fun _ => false) 0)) b ∧ b < (s2.heap.push O0).objs.size := fun b hb => by
    obtain ⟨o, z, _⟩ := T.obj _ _ st2 b hb
    have lt := Heap.lt_size z
    exact ⟨⟨by rw [upd_ne (by rw [← hD]; exact Nat.ne_of_lt lt)]; exact (f2 b hb).1, (f2 b hb).2⟩, by rw [sz3]; exact Nat.lt_succ_of_lt lt⟩
  have st3 : tn 0 (s2.heap.push O0) := T.keep _ _ _ st2 fun b _ o z => kp3 b o z
  have cs : ({ s2 with heap := s2.heap.push O0 } : Shared).heap = s2.heap.push O0 := rfl
  generalize ({ s2 with heap := s2.heap.push O0 } : Shared) = s3 at I3 cs ⊢
  rw [← cs] at f3 st3
  generalize upd H2 D (SetO X.w D (fun _ => false) 0) = H3 at I3 f3 w0
  have I4 := block_start I3 ok hN f3
  have pg := hg s3 H3 s3.heap.objs.size (cellsFrom (s3.heap.objs.size + 1) scope.names (cloFrom X.env.cells scope.names [])) fp
  have pt := ht s3 H3 s3.heap.objs.size (cellsFrom (s3.heap.objs.size + 1) scope.names (cloFrom X.env.cells scope.names [])) fp
  have pe := he s3 H3 s3.heap.objs.size (cellsFrom (s3.heap.objs.size + 1) scope.names (cloFrom X.env.cells scope.names [])) fp
  show codeAny _ _ (.compStart (.SetComp elt [⟨tg, iter, ifs, 0⟩] scope pos) 0 (.ref it) (.ref D) (compEnvC scope (cellsFrom (s3.heap.objs.size + 1) scope.names (cloFrom X.env.cells scope.names [])) s3.heap.objs.size X.env)) (compPost (model X.prog X.w) X.A X.xe none (EP X pins σ Q) (.ref D) s3.heap.objs.size) { s3 with heap := pushCells (s3.heap.push { cls := .type "dict", data := .dict #[] }) scope.names }
  have st4 : tn 0 (pushCells (s3.heap.push { cls := .type "dict", data := .dict #[] }) scope.names) := T.keep _ _ _ st3 fun b _ o z => pushCells_keeps _ _ _ _ (Heap.get?_push_of_some _ z)
  generalize hce : compEnvC scope (cellsFrom (s3.heap.objs.size + 1) scope.names (cloFrom X.env.cells scope.names [])) s3.heap.objs.size X.env = ce at I4 pg pt pe ⊢
  have cL : ce.locals = s3.heap.objs.size := by subst hce; rfl
  have nfp : ∀ b ∈ fp, H3 b = none := fun b hb => (f3 b hb).1.1
  have stat : ∀ {σ' : L2.St} {H' : Hp} {s' : Shared}, Inv (X.blk s3 H3 scope ce fp) [] σ' H' s' → (∀ b ∈ fp, H' b = none) → ∀ b ∈ fp, FpOk (X.blk s3 H3 scope ce fp) [] H' b := fun {σ' H' s'} I' hn b hb =>
    ⟨hn b hb, (I'.ok.exf b hb).1, I'.ok.exfs b hb, .inl hb, fun x c z => (I'.ok.exf b hb).2 x c z, fun p hp => absurd (show p ∈ ([] : List (Addr × Obj)) ++ [] from hp) (by simp)⟩
  refine PpSet.codeAny_compStart_set ?_ (T.self X.A 0 _ _ _ st4 ?_)
  rotate_left
  all_goals
    refine PpSet.compLoopS_any (fun n s' => ∃ i H', Inv (X.blk s3 H3 scope ce fp) [] (wipe σ (own.map (·.2))) H' s' ∧ tn i s'.heap ∧ (∀ b ∈ fp, H' b = none) ∧ W i n H') ?_ m0 ⟨0, H3, I4, st4, nfp, w0⟩
    rintro n s5 ⟨i, H5, I5, st5, n5, w5⟩
    rcases turn i n H5 w5 with ⟨stop, qq⟩ | ⟨go, N, hNx, step⟩
    · refine thnF (T.done (X.blk s3 H3 scope ce fp) rfl rfl rfl hc i [] s5 _ H5 (fun _ _ => False) I5 (stat I5 n5) st5 stop) fun r s6 ⟨hr, I6⟩ => ?_
      subst hr
      have I7 : Inv X pins σ H5 s6 := I3.call' (ch := fp) I6.os I6.base I6.hok I6.bare fun b hb => ⟨(f3 b hb).1.2.2.2.1, (f3 b hb).1.2.1, (f3 b hb).1.2.2.2.2.1, (f3 b hb).1.2.2.2.2.2⟩
      have nC : H5 s3.heap.objs.size = none := by
        have z : H5 ce.locals = none := I6.free
        rw [cL] at z
        exact z
      obtain ⟨m, hn, _⟩ := I6.loc
      have hn' : s6.heap.Ns s3.heap.objs.size m := by rw [← cL]; exact hn
      obtain ⟨g0, g1, g2, g3, g4, g5⟩ := I3.fpOk (Nat.le_refl _) nC
      exact ⟨m, hn', fun h'' sb => ⟨.ref D, H5, I7.turned (t' := s6.toks) (fun b o hb z => (sb.2 b hb).trans z) g0 g1 g3 g4 g5, rfl, qq⟩⟩
    · refine thnF (T.item (X.blk s3 H3 scope ce fp) rfl rfl rfl hc i [] s5 _ H5 (fun _ _ => False) I5 (stat I5 n5) st5 go) fun r s6 ⟨u, hr, h6⟩ => ?_
      subst hr
      refine thnF h6 fun _ s7 ⟨x, H7, I7, r7, y7, st7, n7⟩ => ?_
      refine thnF (pg.run _ s7 _ H7 x u _ (I7.pinned (stat I7 n7) (T.obj _ _ st7)) r7 (step x H7 y7)) fun _ s8 ⟨σ8, H8, I8, hw8, q8⟩ => ?_
      refine thnF (pt.run _ s8 σ8 H8 _ I8 q8) fun b s9 ⟨H9, I9, q9⟩ => ?_
      have fin : ∀ {s' : Shared} {H' : Hp}, Inv (X.blk s3 H3 scope ce fp) ([] ++ pinsAt fp s7.heap) σ8 H' s' → N H' → ∃ m, m < n ∧ ∃ i H', Inv (X.blk s3 H3 scope ce fp) [] (wipe σ (own.map (·.2))) H' s' ∧ tn i s'.heap ∧ (∀ b ∈ fp, H' b = none) ∧ W i m H' := fun {s' H'} I' nx => by
        obtain ⟨m', hm, w'⟩ := hNx H' nx
        have pin' : ∀ b ∈ fp, ∀ o, s7.heap.get? b = some o → s'.heap.get? b = some o ∧ H' b = none := fun b hb o z =>
          have y := I'.pin (b, o) (List.mem_append_right _ (List.mem_append_right _ (mem_pinsAt hb z)))
          ⟨y.1, y.2.1⟩
        refine ⟨m', hm, i + 1, H', (I'.unpinned (pins := [])).weak (by rw [← hw8, wipe_length]) (fun j v z => ?_), T.keep _ _ _ st7 fun b hb o z => (pin' b hb o z).1, fun b hb => ?_, w'⟩
        · rw [← hw8] at z
          exact (wipe_some z).1
        · obtain ⟨o, z, _⟩ := T.obj _ _ st7 b hb
          exact (pin' b hb o z).2
      cases b with
      | false => exact fin I9 q9
      | true =>
        refine thnF (pe.run _ s9 σ8 H9 _ I9 q9) fun z s10 ⟨yv, H10, I10, r10, q10⟩ => ?_
        exact addI_ok (X := X.blk s3 H3 scope ce fp) I10 r10 q10 fun s11 H11 I11 n11 => fin I11 n11
end
end Pl

end

section
set_option Elab.async false
set_option linter.all false
set_option maxRecDepth 100000
set_option maxHeartbeats 2000000
/-! PlG: promises by positional values and keywords; calls, methods, makings, properties by them. -/
namespace Pl
open PySem PySem.Spec PyProof.Rows L2

/-- a promise by values: the positional ones, then those of the keywords ks -/
def FnA (P : Program) (w : World) (K : PySem.W.Frag) (mg : Str → Option Value) (base : Heap) (k : Nat) (f : Addr) (ks : List Str) (sp : Sp) : Prop :=
  ∀ (A : Around) (outer : List Env) (s : Shared) (H : Hp) (us ws : List Value) (vs zs : List V) (Q : VK) (E : XK), Room k A → Env0 P w K mg base A outer s H → Vals vs us → Vals zs ws → ws.length = ks.length → sp (vs ++ zs) H Q E →
    codeAny (model P w) A (.call (.ref f) ⟨us, ks.zip ws⟩) (CR (L2.CX P w) outer P w H s Q E) s
section
variable {P : Program} {w : World} {K : PySem.W.Frag} {mg : Str → Option Value} {base : Heap} {k j : Nat} {f : Addr} {ks : List Str} {sp sp' : Sp}
theorem FnA.mono (F : FnA P w K mg base j f ks sp) (h : j ≤ k) : FnA P w K mg base k f ks sp := fun A outer s H us ws vs zs Q E hr => F A outer s H us ws vs zs Q E (hr.mono h)
theorem FnA.imp (F : FnA P w K mg base k f ks sp) (h : ∀ vs H Q E, sp' vs H Q E → sp vs H Q E) : FnA P w K mg base k f ks sp' := fun A outer s H us ws vs zs Q E hr e0 r1 r2 l hs => F A outer s H us ws vs zs Q E hr e0 r1 r2 l (h _ _ _ _ hs)
theorem FnA.r (F : FnA P w K mg base k f [] sp) : FnR P w K mg base (L2.CX P w) k f sp := fun A outer s H us vs Q E hr e0 r h =>
  F A outer s H us [] vs [] Q E hr e0 r .nil rfl (by rw [List.append_nil]; exact h)
theorem FnA.ofR (F : FnR P w K mg base (L2.CX P w) k f sp) : FnA P w K mg base k f [] sp := by
  intro A outer s H us ws vs zs Q E hr e0 r1 r2 l h
  cases ws with
  | nil =>
    cases r2
    rw [List.append_nil] at h
    exact F A outer s H us vs Q E hr e0 r1 h
  | cons a b => cases l
/-- from a def's body; how the values are bound -/
theorem fna_of {fd : FuncData} {ps : List Str} (F : FnOk P w K mg base (L2.CX P w) k f fd ps sp) (hb : ∀ (s : Shared) (us ws : List Value), K.In s.heap → (us ++ ws).length = ps.length → ws.length = ks.length → BindsTo s fd ⟨us, ks.zip ws⟩ (ps.zip (us ++ ws))) : FnA P w K mg base k f ks sp := by
  intro A outer s H us ws vs zs Q E hr e0 r1 r2 l h
  have r := r1.append r2
  have hl : (us ++ ws).length = ps.length := by rw [← r.length]; exact F.len _ _ _ _ h
  exact F.run A outer s H ⟨us, ks.zip ws⟩ (us ++ ws) (vs ++ zs) Q E hr e0 (hb s us ws (e0.mod.kin.keeps fun b o e => (e0.bs b o e).1) hl l) r h
/-- .. where defaults fill up the positional ones -/
theorem fna_dfl {fd : FuncData} {ps : List Str} {ds : List Value} {dvs : List V} (F : FnOk P w K mg base (L2.CX P w) k f fd ps sp) (hb : Binds K fd ps ds) (hd : Vals dvs ds) : FnA P w K mg base k f [] (fun vs H Q E => sp (vs ++ dvs) H Q E) := .ofR (F.raw hb hd)
end
/-- the module's name x holds such a def -/
def Df (P : Program) (w : World) (K : PySem.W.Frag) (mg : Str → Option Value) (base : Heap) (k : Nat) (x : Str) (ks : List Str) (sp : Sp) : Prop := ∃ f, mg x = some (.ref f) ∧ PySem.W.keepIn K (.ref f) = true ∧ FnA P w K mg base k f ks sp
theorem passLA {X : Cx} : ∀ σ, PassesAt (L2.CX X.prog X.w) X σ ((fun _ => E0 : L2.St → XK) σ) := fun σ pins H s e s' I c => passL pins σ H s e s' I c
section
variable {X : Cx} {k : Nat} {f C : Addr} {ks : List Str} {sp : Sp} {E : L2.St → XK} {x m : Str} {p pos apos : Pos} {e o : Expr} {es : List Expr} {kws : List Keyword} {ta : TE} {t tk : TA}
theorem run_fnA {A : Around} {pins : List (Addr × Obj)} {σ : L2.St} {H : Hp} {s : Shared} {Q : VK} {us ws : List Value} {vs zs : List V} (F : FnA X.prog X.w X.K X.mg X.base k f ks sp) (hr : Room k A) (e0 : Env0 X.prog X.w X.K X.mg X.base A X.stack s H) (hx : PassesAt (L2.CX X.prog X.w) X σ (E σ)) (I : Inv X pins σ H s)
    (r1 : Vals vs us) (r2 : Vals zs ws) (l : zs.length = ks.length) (h : sp (vs ++ zs) H Q (E σ)) : codeAny (model X.prog X.w) A (.call (.ref f) ⟨us, ks.zip ws⟩) (fun r s' => match r with | .ok (.ret v) => EP X pins σ Q v s' | .ok _ => False | .error e => X.xe e s') s := by
  refine codeAny_mono (F A X.stack s H us ws vs zs Q (E σ) hr e0 r1 r2 (by rw [← r2.length]; exact l) h) fun r s' hq => ?_
  cases r with
  | error e => exact hx pins H s e s' I hq
  | ok fl =>
    cases fl with
    | ret u => exact I.after hq
    | next => exact False.elim hq
    | brk => exact False.elim hq
    | cont => exact False.elim hq
theorem run_dfA {pins : List (Addr × Obj)} {σ : L2.St} {H : Hp} {s : Shared} {Q : VK} {us ws : List Value} {vs zs : List V} (F : FnA X.prog X.w X.K X.mg X.base k f ks sp) (hr : Room k X.A) (hx : PassesAt (L2.CX X.prog X.w) X σ (E σ)) (I : Inv X pins σ H s)
    (r1 : Vals vs us) (r2 : Vals zs ws) (l : zs.length = ks.length) (h : sp (vs ++ zs) H Q (E σ)) : wpAny (model X.prog X.w) X.A (call (.ref f) us (ks.zip ws)) (EP X pins σ Q) X.xe s :=
  wpAny_call (run_fnA F hr I.env0 hx I r1 r2 l h)
/-- x(e, ..) -/
theorem pe_df (F : Df X.prog X.w X.K X.mg X.base k x [] sp) (hr : Room k X.A) (hg : Gl X x) (hx : ∀ σ, PassesAt (L2.CX X.prog X.w) X σ (E σ)) (ha : PA X (e :: es) t) (hdb : (x == ("__debug__" : Str)) = false := by decide)
    (he : starEach (e :: es) X.env = (false, eval e X.env) :: starEach es X.env := by rfl) (hpl : (backTo pos (starEach es X.env)).any (·.1) = false := by rfl) :
    PE X (.Call (.Name x p) (e :: es) [] pos) (tCallS sp E t) := by
  obtain ⟨f, hm, hk, F⟩ := F
  refine ⟨fun pins s σ H Q I h => ?_⟩
  refine wpAny_Call_Name_kw (ld_glob I hg hm ?_ hdb)
  refine PySem.W.callWith_K (h₀ := X.base) I.ok.mod.kin hk (thn (ha.run pos pins s σ H _ I h) fun us s1 ⟨vs, H1, I1, r, q⟩ => ⟨I1.kIn, ?_⟩) he hpl
  exact run_dfA (ws := []) (zs := []) F hr (hx σ) I1 r .nil rfl (by rw [List.append_nil]; exact q)
/-- a call with keywords: their values behind the positional ones -/
def tCallKw (m : Nat) (sp : Sp) (E : L2.St → XK) (t tk : TA) : TE := fun σ H Q => t σ H fun vs H1 => tk σ H1 fun zs H2 => zs.length = m ∧ sp (vs ++ zs) H2 Q (E σ)
theorem pe_dfK (F : Df X.prog X.w X.K X.mg X.base k x ks sp) (hr : Room k X.A) (hg : Gl X x) (hx : ∀ σ, PassesAt (L2.CX X.prog X.w) X σ (E σ)) (ha : PA X (e :: es) t) (hkw : PK X kws tk) (hall : (backToKw pos (keywordEach kws X.env)).all (·.1.isSome) = true := by rfl)
    (hks : (backToKw pos (keywordEach kws X.env)).filterMap (·.1) = ks := by rfl) (hdb : (x == ("__debug__" : Str)) = false := by decide) (he : starEach (e :: es) X.env = (false, eval e X.env) :: starEach es X.env := by rfl)
    (hpl : ((backTo pos (starEach (e :: es) X.env)).any (·.1) || (backToKw pos (keywordEach kws X.env)).any (·.1.isNone)) = false := by rfl) :
    PE X (.Call (.Name x p) (e :: es) kws pos) (tCallKw ks.length sp E t tk) := by
  obtain ⟨f, hm, hk, F⟩ := F
  refine ⟨fun pins s σ H Q I h => ?_⟩
  refine wpAny_Call_Name_kw (ld_glob I hg hm ?_ hdb)
  refine PySem.W.callWith_KW (h₀ := X.base) I.ok.mod.kin hk hall (thn (ha.run pos pins s σ H _ I h) fun us s1 ⟨vs, H1, I1, r, q⟩ => ?_) hpl he
  refine thn (hkw.run pos pins s1 σ H1 _ I1 q) fun ws s2 ⟨zs, H2, I2, rz, l2, q2⟩ => ⟨I2.kIn, ?_⟩
  rw [hks]
  exact run_dfA F hr (hx σ) I2 r rz l2 q2
/-! ### makings -/
def tMkA (C : Addr) (m : Nat) (sp : Sp) (E : L2.St → XK) (t tk : TA) : TE := fun σ H Q => t σ H fun vs H1 => tk σ H1 fun zs H2 => zs.length = m ∧ ∀ x dx, H2 x = none → H2 dx = none → dx ≠ x →
  sp (V.ref x :: vs ++ zs) (upd (upd H2 dx (.own x)) x (.ins C dx [])) (fun v H3 => v = .non ∧ Q (.ref x) H3) (E σ)
theorem run_mkA {pins : List (Addr × Obj)} {σ : L2.St} {H : Hp} {s : Shared} {Q : VK} {us ws : List Value} {vs zs : List V} (M : Mk X.K C f) (F : FnA X.prog X.w X.K X.mg X.base k f ks sp) (hr : Room (k + 1) X.A) (hx : PassesAt (L2.CX X.prog X.w) X σ (E σ)) (I : Inv X pins σ H s)
    (r1 : Vals vs us) (r2 : Vals zs ws) (l : zs.length = ks.length)
    (h : ∀ x dx, H x = none → H dx = none → dx ≠ x → sp (V.ref x :: vs ++ zs) (upd (upd H dx (.own x)) x (.ins C dx [])) (fun v H2 => v = .non ∧ Q (.ref x) H2) (E σ)) :
    wpAny (model X.prog X.w) X.A (call (.ref C) us (ks.zip ws)) (EP X pins σ Q) X.xe s := by
  have hq := h (s.heap.objs.size + 1) s.heap.objs.size (I.hok.fresh (Nat.le_succ _)) (I.hok.fresh (Nat.le_refl _)) (Nat.ne_of_lt (Nat.lt_succ_self _))
  have I2 := Inv.made (C := C) I
  have r3 : Vals (V.ref (s.heap.objs.size + 1) :: vs) (Value.ref (s.heap.objs.size + 1) :: us) := .cons rfl r1
  refine wpAny_call (make_map (f := f) I.kIn M.makes M.init (beq_iff_eq.mp M.fn) (codeAny_mono (F _ X.stack _ _ (Value.ref (s.heap.objs.size + 1) :: us) ws (V.ref (s.heap.objs.size + 1) :: vs) zs _ (E σ) (hr.make C us (ks.zip ws)) (I2.env0.make C us (ks.zip ws)) r3 r2 (by rw [← r2.length]; exact l) hq) fun r s' hq' => ?_))
  cases r with
  | error e => exact hx pins _ _ e s' I2 hq'
  | ok fl =>
    cases fl with
    | ret u =>
      obtain ⟨v, H', I3, rv, ev, q3⟩ := I2.after hq'
      subst ev
      exact ⟨rv, ⟨V.ref (s.heap.objs.size + 1), H', I3, rfl, q3⟩⟩
    | next => exact False.elim hq'
    | brk => exact False.elim hq'
    | cont => exact False.elim hq'
/-- a class at C with such an __init__ -/
def Mkr (P : Program) (w : World) (K : PySem.W.Frag) (mg : Str → Option Value) (base : Heap) (k : Nat) (C : Addr) (ks : List Str) (sp : Sp) : Prop := ∃ f, Mk K C f ∧ FnA P w K mg base k f ks sp
/-- C(e, ..) -/
theorem pe_mk (F : Mkr X.prog X.w X.K X.mg X.base k C [] sp) (hr : Room (k + 1) X.A) (hg : Gl X x) (hm : X.mg x = some (.ref C)) (hx : ∀ σ, PassesAt (L2.CX X.prog X.w) X σ (E σ)) (ha : PA X (e :: es) t) (hdb : (x == ("__debug__" : Str)) = false := by decide)
    (he : starEach (e :: es) X.env = (false, eval e X.env) :: starEach es X.env := by rfl) (hpl : (backTo pos (starEach es X.env)).any (·.1) = false := by rfl) :
    PE X (.Call (.Name x p) (e :: es) [] pos) (tMkA C 0 sp E t tNil) := by
  obtain ⟨f, M, F⟩ := F
  refine ⟨fun pins s σ H Q I h => ?_⟩
  refine wpAny_Call_Name_kw (ld_glob I hg hm ?_ hdb)
  refine PySem.W.callWith_K (h₀ := X.base) I.ok.mod.kin M.kp (thn (ha.run pos pins s σ H _ I h) fun us s1 ⟨vs, H1, I1, r, l, q⟩ => ⟨I1.kIn, ?_⟩) he hpl
  exact run_mkA (ws := []) (zs := []) M F hr (hx σ) I1 r .nil l q
/-- C(e, .., k = v, ..) -/
theorem pe_mkK (F : Mkr X.prog X.w X.K X.mg X.base k C ks sp) (hr : Room (k + 1) X.A) (hg : Gl X x) (hm : X.mg x = some (.ref C)) (hx : ∀ σ, PassesAt (L2.CX X.prog X.w) X σ (E σ)) (ha : PA X (e :: es) t) (hkw : PK X kws tk)
    (hall : (backToKw pos (keywordEach kws X.env)).all (·.1.isSome) = true := by rfl) (hks : (backToKw pos (keywordEach kws X.env)).filterMap (·.1) = ks := by rfl) (hdb : (x == ("__debug__" : Str)) = false := by decide)
    (he : starEach (e :: es) X.env = (false, eval e X.env) :: starEach es X.env := by rfl) (hpl : ((backTo pos (starEach (e :: es) X.env)).any (·.1) || (backToKw pos (keywordEach kws X.env)).any (·.1.isNone)) = false := by rfl) :
    PE X (.Call (.Name x p) (e :: es) kws pos) (tMkA C ks.length sp E t tk) := by
  obtain ⟨f, M, F⟩ := F
  refine ⟨fun pins s σ H Q I h => ?_⟩
  refine wpAny_Call_Name_kw (ld_glob I hg hm ?_ hdb)
  refine PySem.W.callWith_KW (h₀ := X.base) I.ok.mod.kin M.kp hall (thn (ha.run pos pins s σ H _ I h) fun us s1 ⟨vs, H1, I1, r, q⟩ => ?_) hpl he
  refine thn (hkw.run pos pins s1 σ H1 _ I1 q) fun ws s2 ⟨zs, H2, I2, rz, l2, q2⟩ => ⟨I2.kIn, ?_⟩
  rw [hks]
  exact run_mkA M F hr (hx σ) I2 r rz l2 q2
/-- c(e, ..), c a name of the def that holds the class -/
def tMkV (C : Addr) (i : Nat) (sp : Sp) (E : L2.St → XK) (t : TA) : TE := fun σ H Q => σ[i]? = some (some (.ref C)) ∧ tMkA C 0 sp E t tNil σ H Q
theorem pe_mkV {i : Nat} (F : Mkr X.prog X.w X.K X.mg X.base k C [] sp) (hr : Room (k + 1) X.A) (hN : X.N[i]? = some x) (hv : Vis X.env.scope x) (hx : ∀ σ, PassesAt (L2.CX X.prog X.w) X σ (E σ)) (ha : PA X (e :: es) t) (hdb : (x == ("__debug__" : Str)) = false := by decide) (hcd : (x == ("__classdict__" : Str)) = false := by decide)
    (he : starEach (e :: es) X.env = (false, eval e X.env) :: starEach es X.env := by rfl) (hpl : (backTo pos (starEach es X.env)).any (·.1) = false := by rfl) :
    PE X (.Call (.Name x p) (e :: es) [] pos) (tMkV C i sp E t) := by
  obtain ⟨f, M, F⟩ := F
  refine ⟨fun pins s σ H Q I h => ?_⟩
  obtain ⟨h1, h2⟩ := h
  have pv := (pe_var (X := X) (i := i) (pos := p) hN hv hdb hcd).run pins s σ H (fun v H1 => v = .ref C ∧ H1 = H) I ⟨_, h1, rfl, rfl⟩
  refine wpAny_Call_Name_kw (thn pv fun u s1 ⟨v, H1, I1, rv, ev, eH⟩ => ?_)
  subst ev
  subst eH
  cases rv
  refine PySem.W.callWith_K (h₀ := X.base) I1.ok.mod.kin M.kp (thn (ha.run pos pins s1 σ H1 _ I1 h2) fun us s2 ⟨vs, H2, I2, r, l, q⟩ => ⟨I2.kIn, ?_⟩) he hpl
  exact run_mkA (ws := []) (zs := []) M F hr (hx σ) I2 r .nil l q
end
end Pl

end

section
set_option Elab.async false
set_option linter.all false
set_option maxRecDepth 100000
set_option maxHeartbeats 2000000
/-! PlH: methods of instances with slots and with a dict, properties read and stored, class methods, by such promises. -/
namespace Pl
open PySem PySem.Spec PyProof.Rows L2

/-- the class at C (slots) has the method m, which keeps sp -/
def MtS (P : Program) (w : World) (K : PySem.W.Frag) (mg : Str → Option Value) (base : Heap) (k : Nat) (C : Addr) (m : Str) (sp : Sp) : Prop := SlX.SCls K C ∧ ∃ g, Meth K C m g ∧ FnA P w K mg base k g [] sp
/-- .. its instances have a dict -/
def MtD (P : Program) (w : World) (K : PySem.W.Frag) (mg : Str → Option Value) (base : Heap) (k : Nat) (C : Addr) (m : Str) (sp : Sp) : Prop := Cls K C ∧ ∃ g, Meth K C m g ∧ FnA P w K mg base k g [] sp
/-- a property of such a class -/
def PrD (P : Program) (w : World) (K : PySem.W.Frag) (mg : Str → Option Value) (base : Heap) (k : Nat) (C : Addr) (m : Str) (sp : Sp) : Prop := Cls K C ∧ ∃ p g, PropOf K C m p g ∧ FnA P w K mg base k g [] sp
def PrS (P : Program) (w : World) (K : PySem.W.Frag) (mg : Str → Option Value) (base : Heap) (k : Nat) (C : Addr) (m : Str) (sp : Sp) : Prop := SlX.SCls K C ∧ ∃ p g, PropOf K C m p g ∧ FnA P w K mg base k g [] sp
/-- its setter -/
structure SetOf (K : PySem.W.Frag) (C : Addr) (f : Str) (p g : Addr) : Prop where
  tk : PySem.W.takerIn K C f = some (some (.ref p))
  ty : PySem.W.typeIn K (.ref p) = some (.type "property")
  rc : ∃ a rest, PySem.W.recIn K p "property" = some (a :: .ref g :: rest)
def SetD (P : Program) (w : World) (K : PySem.W.Frag) (mg : Str → Option Value) (base : Heap) (k : Nat) (C : Addr) (m : Str) (sp : Sp) : Prop := Cls K C ∧ ∃ p g, SetOf K C m p g ∧ FnA P w K mg base k g [] sp

def tMtS (C : Addr) (sp : Sp) (E : L2.St → XK) (ta : TE) (t : TA) : TE := fun σ H Q => ta σ H fun x H1 => ∃ a dx vs, x = .ref a ∧ SlX.Slt H1 a C dx vs ∧ t σ H1 fun ws H2 => sp (x :: ws) H2 Q (E σ)
def tMtD (C : Addr) (m : Str) (sp : Sp) (E : L2.St → XK) (ta : TE) (t : TA) : TE := fun σ H Q => ta σ H fun x H1 => ∃ a dx fs, x = .ref a ∧ H1 a = some (.ins C dx fs) ∧ fs.lookup m = none ∧ t σ H1 fun ws H2 => sp (x :: ws) H2 Q (E σ)
def tPrD (C : Addr) (sp : Sp) (ta : TE) : TE := fun σ H Q => ta σ H fun x H1 => ∃ a dx fs, x = .ref a ∧ H1 a = some (.ins C dx fs) ∧ sp [.ref a] H1 Q E0
def tPrS (C : Addr) (sp : Sp) (ta : TE) : TE := fun σ H Q => ta σ H fun x H1 => ∃ a dx vs, x = .ref a ∧ SlX.Slt H1 a C dx vs ∧ sp [.ref a] H1 Q E0
def sSetD (C : Addr) (sp : Sp) (E : L2.St → XK) (ta tv : TE) : TS := fun D σ H => tv σ H fun y H1 => ta σ H1 fun x H2 => ∃ a dx fs, x = .ref a ∧ H2 a = some (.ins C dx fs) ∧ sp [.ref a, y] H2 (fun _ H3 => D.nx σ H3) (E σ)
section
variable {X : Cx} {k : Nat} {C : Addr} {sp : Sp} {E : L2.St → XK} {f m : Str} {pos pos' apos : Pos} {e o value : Expr} {es : List Expr} {ta tv : TE} {t : TA} {pl : Sem Bool}
theorem pe_mtS (he : PE X o ta) (M : MtS X.prog X.w X.K X.mg X.base k C m sp) (hr : Room k X.A) (hx : ∀ σ, PassesAt (L2.CX X.prog X.w) X σ (E σ)) (ha : PA X (e :: es) t)
    (hst : starEach (e :: es) X.env = (false, eval e X.env) :: starEach es X.env := by rfl) (hpl : (backTo pos (starEach es X.env)).any (·.1) = false := by rfl)
    (ht : eval (.Call (.Attribute o m apos) (e :: es) [] pos) X.env = (do
      let ov ← eval o X.env
      standAt apos.atName
      let (f, first) ← holding [ov] (getMethod ov m pl)
      callWith pos f first (backTo pos (starEach (e :: es) X.env)) (backToKw pos (keywordEach [] X.env))) := by rfl) :
    PE X (.Call (.Attribute o m apos) (e :: es) [] pos) (tMtS C sp E ta t) := by
  obtain ⟨c, g, hm, F⟩ := M
  refine ⟨fun pins s σ H Q I h => ?_⟩
  refine PySem.W.methodCall_KW (pl := pl) (thn (he.run pins s σ H _ I h) fun u s1 ⟨x, H1, I1, rx, a, dx, vs, ex, hsl, q⟩ => ?_) ht
  subst ex
  obtain rfl : u = Value.ref a := rx
  refine SlX.getmethsl_ok I1 hsl c hm ?_
  refine PySem.W.callWith_K (first := [.ref a]) (h₀ := X.base) I.ok.mod.kin hm.kp (thn (ha.run pos pins s1 σ H1 _ I1 q) fun us s2 ⟨ws, H2, I2, r, q2⟩ => ⟨I2.kIn, ?_⟩) hst hpl
  exact run_dfA (us := .ref a :: us) (vs := .ref a :: ws) (ws := []) (zs := []) F hr (hx σ) I2 (.cons rfl r) .nil rfl (by rw [List.append_nil]; exact q2)
theorem pe_mtS0 (he : PE X o ta) (M : MtS X.prog X.w X.K X.mg X.base k C m sp) (hr : Room k X.A) (hx : ∀ σ, PassesAt (L2.CX X.prog X.w) X σ (E σ))
    (ht : eval (.Call (.Attribute o m apos) [] [] pos) X.env = (do
      let ov ← eval o X.env
      standAt apos.atName
      let (f, first) ← holding [ov] (getMethod ov m pl)
      callWith pos f first (backTo pos (starEach [] X.env)) (backToKw pos (keywordEach [] X.env))) := by rfl) :
    PE X (.Call (.Attribute o m apos) [] [] pos) (tMtS C sp E ta tNil) := by
  obtain ⟨c, g, hm, F⟩ := M
  refine ⟨fun pins s σ H Q I h => ?_⟩
  refine PySem.W.methodCall_KW (pl := pl) (thn (he.run pins s σ H _ I h) fun u s1 ⟨x, H1, I1, rx, a, dx, vs, ex, hsl, q⟩ => ?_) ht
  subst ex
  obtain rfl : u = Value.ref a := rx
  refine SlX.getmethsl_ok I1 hsl c hm ?_
  exact PySem.W.callWith_K0 (first := [.ref a]) I1.kIn hm.kp (run_dfA (us := [.ref a]) (vs := [.ref a]) (ws := []) (zs := []) F hr (hx σ) I1 (.cons rfl .nil) .nil rfl q)
theorem pe_mtD (he : PE X o ta) (M : MtD X.prog X.w X.K X.mg X.base k C m sp) (hr : Room k X.A) (hx : ∀ σ, PassesAt (L2.CX X.prog X.w) X σ (E σ)) (ha : PA X (e :: es) t)
    (hst : starEach (e :: es) X.env = (false, eval e X.env) :: starEach es X.env := by rfl) (hpl : (backTo pos (starEach es X.env)).any (·.1) = false := by rfl)
    (ht : eval (.Call (.Attribute o m apos) (e :: es) [] pos) X.env = (do
      let ov ← eval o X.env
      standAt apos.atName
      let (f, first) ← holding [ov] (getMethod ov m pl)
      callWith pos f first (backTo pos (starEach (e :: es) X.env)) (backToKw pos (keywordEach [] X.env))) := by rfl) :
    PE X (.Call (.Attribute o m apos) (e :: es) [] pos) (tMtD C m sp E ta t) := by
  obtain ⟨c, g, hm, F⟩ := M
  refine ⟨fun pins s σ H Q I h => ?_⟩
  refine PySem.W.methodCall_KW (pl := pl) (thn (he.run pins s σ H _ I h) fun u s1 ⟨x, H1, I1, rx, a, dx, fs, ex, ea, l, q⟩ => ?_) ht
  subst ex
  obtain rfl : u = Value.ref a := rx
  refine getmeth_ok I1 ea c hm l ?_
  refine PySem.W.callWith_K (first := [.ref a]) (h₀ := X.base) I.ok.mod.kin hm.kp (thn (ha.run pos pins s1 σ H1 _ I1 q) fun us s2 ⟨ws, H2, I2, r, q2⟩ => ⟨I2.kIn, ?_⟩) hst hpl
  exact run_dfA (us := .ref a :: us) (vs := .ref a :: ws) (ws := []) (zs := []) F hr (hx σ) I2 (.cons rfl r) .nil rfl (by rw [List.append_nil]; exact q2)
theorem pe_mtD0 (he : PE X o ta) (M : MtD X.prog X.w X.K X.mg X.base k C m sp) (hr : Room k X.A) (hx : ∀ σ, PassesAt (L2.CX X.prog X.w) X σ (E σ))
    (ht : eval (.Call (.Attribute o m apos) [] [] pos) X.env = (do
      let ov ← eval o X.env
      standAt apos.atName
      let (f, first) ← holding [ov] (getMethod ov m pl)
      callWith pos f first (backTo pos (starEach [] X.env)) (backToKw pos (keywordEach [] X.env))) := by rfl) :
    PE X (.Call (.Attribute o m apos) [] [] pos) (tMtD C m sp E ta tNil) := by
  obtain ⟨c, g, hm, F⟩ := M
  refine ⟨fun pins s σ H Q I h => ?_⟩
  refine PySem.W.methodCall_KW (pl := pl) (thn (he.run pins s σ H _ I h) fun u s1 ⟨x, H1, I1, rx, a, dx, fs, ex, ea, l, q⟩ => ?_) ht
  subst ex
  obtain rfl : u = Value.ref a := rx
  refine getmeth_ok I1 ea c hm l ?_
  exact PySem.W.callWith_K0 (first := [.ref a]) I1.kIn hm.kp (run_dfA (us := [.ref a]) (vs := [.ref a]) (ws := []) (zs := []) F hr (hx σ) I1 (.cons rfl .nil) .nil rfl q)
/-- e.f, a property that lets nothing out -/
theorem pe_prD (he : PE X e ta) (M : PrD X.prog X.w X.K X.mg X.base k C f sp) (hr : Room (k + 1) X.A) (hab : attributeBase e f X.env (eval e X.env) = eval e X.env := by rfl) : PE X (.Attribute e f pos) (tPrD C sp ta) := by
  obtain ⟨c, p, g, hp, F⟩ := M
  refine ⟨fun pins s σ H Q I h => ?_⟩
  refine attr_of hab (thn (he.run pins s σ H _ I h) fun u s1 ⟨x, H1, I1, rx, a, dx, fs, ex, ea, q⟩ => ?_)
  subst ex
  obtain rfl : u = Value.ref a := rx
  obtain ⟨mA, O, _, _, _, _⟩ := ins_get I1.hok ea
  obtain ⟨od, J, _⟩ := O.look
  obtain ⟨rest, hrec⟩ := hp.rec_
  have I2 := I1.tok (s1.toks + 1)
  have hc : (PySem.W.clsIn X.K C).isSome = true := by
    obtain ⟨cd, hc, _⟩ := PySem.W.any_some c.hd
    rw [hc]
    rfl
  refine PySem.W.get_bind I1.kIn J (PySem.W.plainGet_of (c.get f)).1 (PySem.W.findObj_data hc hp.at_ hp.get hp.tak) (PySem.W.plainGet_of (c.get f)).2 (wpAny_call (PySem.W.prop_get (s := { s1 with toks := s1.toks + 1 }) I1.kIn hrec ?_))
  refine codeAny_mono (F.r X.A.in1 X.stack { s1 with toks := s1.toks + 1 } H1 [.ref a] [.ref a] Q E0 hr.in1 I2.env0.in1 (.cons rfl .nil) q) fun r s' hq => ?_
  cases r with
  | error er => exact False.elim (cx0 hq)
  | ok fl =>
    cases fl with
    | ret u =>
      obtain ⟨v, H', I3, rv, q3⟩ := I2.after hq
      show wpAny _ _ (handedOut u) _ _ _
      rw [PySem.W.handedOut_of (handed_of rv)]
      exact wpAny_pure ⟨v, H', I3, rv, q3⟩
    | next => exact False.elim hq
    | brk => exact False.elim hq
    | cont => exact False.elim hq
theorem pe_prS (he : PE X e ta) (M : PrS X.prog X.w X.K X.mg X.base k C f sp) (hr : Room (k + 1) X.A) (hab : attributeBase e f X.env (eval e X.env) = eval e X.env := by rfl) : PE X (.Attribute e f pos) (tPrS C sp ta) := by
  obtain ⟨c, p, g, hp, F⟩ := M
  refine ⟨fun pins s σ H Q I h => (SlX.pe_propSl he c hp.at_ hp.get hp.tak hp.rec_ F.r hr (fun _ _ _ _ z => cx0 z) hab).run pins s σ H Q I h⟩
/-- o.f = e, a property with a setter -/
theorem ps_setD (ha : PE X o ta) (hv : PE X value tv) (M : SetD X.prog X.w X.K X.mg X.base k C f sp) (hr : Room (k + 2) X.A) (hx : ∀ σ, PassesAt (L2.CX X.prog X.w) X σ (E σ)) (hs : swapsWith value (some (.Attribute o f pos')) pos.line X.env = pure false := by rfl) :
    PS X (.Assign [.Attribute o f pos'] value pos) (sSetD C sp E ta tv) := by
  obtain ⟨c, p, g, hp, F⟩ := M
  refine ⟨fun pins s σ H D I h => ?_⟩
  refine plainObj_wpAny_Assign_Attribute (thn (hv.run pins s σ H _ I h) fun u s1 ⟨y, H1, I1, ry, q⟩ => thn (ha.run pins s1 σ H1 _ I1 q) fun ov s2 ⟨x, H2, I2, rx, a, dx, fs, ex, ea, q2⟩ => ?_) hs
  subst ex
  obtain rfl : ov = Value.ref a := rx
  obtain ⟨mA, O, _, _, _, _⟩ := ins_get I2.hok ea
  obtain ⟨od, J, _⟩ := O.look
  obtain ⟨m, fr⟩ := I2.fr
  obtain ⟨a0, rest, hrec⟩ := hp.rc
  refine PySem.W.set_prop fr I2.ok.mod.kin J c.sa c.po hp.tk hp.ty hrec ?_
  have I3 := I2.tok (s2.toks + 1)
  refine codeAny_mono (F X.A.in1.in1 X.stack { s2 with toks := s2.toks + 1 } H2 [.ref a, u] [] [.ref a, y] [] _ (E σ) (Room.in1 (Room.in1 hr)) I3.env0.in1.in1 (.cons rfl (.cons ry .nil)) .nil rfl (by rw [List.append_nil]; exact q2)) fun r s' hq => ?_
  cases r with
  | error er => exact hx σ pins H2 _ er s' I3 hq
  | ok fl =>
    cases fl with
    | ret u =>
      obtain ⟨v, H', I4, rv, q3⟩ := I3.after hq
      exact ⟨σ, H', I4, q3⟩
    | next => exact False.elim hq
    | brk => exact False.elim hq
    | cont => exact False.elim hq
/-- e.m(e, ..), e the class at C, m a classmethod that lets nothing out -/
theorem pe_cm {mc : Value} {p g : Addr} (he : PE X o ta) (r : ClX.CRead X.K C mc) (c : ClX.CMet X.K C mc m p g) (F : FnA X.prog X.w X.K X.mg X.base k g [] sp) (hr : Room k X.A) (ha : PA X (e :: es) t)
    (hst : starEach (e :: es) X.env = (false, eval e X.env) :: starEach es X.env := by rfl) (hpl : (backTo pos (starEach es X.env)).any (·.1) = false := by rfl)
    (ht : eval (.Call (.Attribute o m apos) (e :: es) [] pos) X.env = (do
      let ov ← eval o X.env
      standAt apos.atName
      let (f, first) ← holding [ov] (getMethod ov m pl)
      callWith pos f first (backTo pos (starEach (e :: es) X.env)) (backToKw pos (keywordEach [] X.env))) := by rfl) :
    PE X (.Call (.Attribute o m apos) (e :: es) [] pos) (ClX.tCMeth C sp E0 ta t) := ClX.pe_cmeth he r c F.r hr passL ha hst hpl ht
end
end Pl

end

section
set_option Elab.async false
set_option linter.all false
set_option maxRecDepth 100000
set_option maxHeartbeats 2000000
/-! PlI: enumerate over a list or a tuple. -/
namespace Pl
open PySem PySem.Spec PyProof.Rows L2

set_option maxHeartbeats 4000000 in
theorem meets_enum1 {v : Value} {o : Obj} {H : Heap → Prop} (B : Begins v o H) :
    Meets (Builtin.«enumerate.__new__» ⟨[.type "enumerate", v], []⟩) (fun _ R s => H s.heap ∧
      R (.ok (.ret (.ref (s.heap.push o).objs.size))) { s with heap := (s.heap.push o).push { cls := .type "enumerate", data := .fields #[.none, .bool false, .ref s.heap.objs.size, rawInt 0, .none, .none] } }) :=
  .of_wp fun prog w A R s h => by
    obtain ⟨hp, g, d, tk, os⟩ := s; obtain ⟨h1, h⟩ := h
    have hsub := sub_enumerate
    have q1 : ∀ {A' : Around} {E : Value → Shared → Prop} {Q : Value → Shared → Prop}, Q (.ref hp.objs.size) ⟨hp.push o, g, d, tk, os⟩ → wpAny (model prog w) A' (pyIter v) Q E ⟨hp, g, d, tk, os⟩ :=
      fun q => B.iter prog w _ _ ⟨hp, g, d, tk, os⟩ _ h1 q
    wp_walk using q1
    refine wpAny_stack_any fun st => wpAny_pure ?_
    split
    · rename_i c _ _ _ _ _
      cases (c == Value.type "enumerate")
      · wp_walk using q1
        exact ⟨_, rfl, h⟩
      · wp_walk using q1
        exact ⟨_, rfl, h⟩
    · wp_walk using q1
      exact ⟨_, rfl, h⟩
section
variable {prog : Program} {w : World} {A : Around} {E : Value → Shared → Prop} {s : Shared}
theorem enum1_begins {v : Value} {o : Obj} {H : Heap → Prop} {Q : Value → Shared → Prop} (B : Begins v o H) (h1 : H s.heap)
    (h : ∀ h', IsEnum h' (s.heap.objs.size + 1) s.heap.objs.size 0 .none → h'.get? s.heap.objs.size = some o → h'.objs.size = s.heap.objs.size + 2 →
      (∀ b o, s.heap.get? b = some o → h'.get? b = some o) → Q (.ref (s.heap.objs.size + 1)) { s with heap := h' }) :
    wpAny (model prog w) A (call (.type "enumerate") [v]) Q E s := by
  refine callType_new F.called_enumerate (by decide) (F.typeCall_enumerate_1 _) (F.newCall_enumerate_1 _) (fun obj => F.args_object_init_2 obj _) F.entry_enumerate_new
    (meets_enum1 B) ⟨h1, ?_⟩
  have hz : (s.heap.push o).objs.size = s.heap.objs.size + 1 := Heap.size_push ..
  show _ ∧ _
  rw [hz]
  have he : IsEnum ((s.heap.push o).push { cls := .type "enumerate", data := .fields #[.none, .bool false, .ref s.heap.objs.size, rawInt 0, .none, .none] }) (s.heap.objs.size + 1) s.heap.objs.size 0 .none := by
    have := Heap.get?_push_size (s.heap.push o) (o := { cls := .type "enumerate", data := .fields #[.none, .bool false, .ref s.heap.objs.size, rawInt 0, .none, .none] }) rfl
    rw [hz] at this; exact this
  exact ⟨⟨_, he, rfl⟩, h _ he (Heap.get?_push_of_some _ (Heap.get?_push_size _ B.free)) (by rw [Heap.size_push, hz]) fun b o x => Heap.get?_push_of_some _ (Heap.get?_push_of_some _ x)⟩
end
/-- the tuple at a, each item in a new pair -/
def IteT (K : PySem.W.Frag) (a : Addr) : It :=
  ⟨fun i H => ∃ (xs : List V) (x : V), SqT K H a xs ∧ xs[i]? = some x, fun i H v H' => ∃ T x, v = .ref T ∧ H T = none ∧ H' = upd H T (.tup [.int (i : Nat), x]) ∧ ∀ xs, SqT K H a xs → xs[i]? = some x, fun i H => ∃ xs : List V, SqT K H a xs ∧ xs.length = i⟩
theorem turn_enumT {P : Program} {w : World} {K : PySem.W.Frag} {elts : List Expr} {kk : Nat} {tpos : Pos} (a e it : Addr) :
    Turn P w K (.Tuple elts kk tpos) (IteT K a) [e, it] e (fun i h => (∃ old, IsEnum h e it ((i : Nat) : Int) old) ∧ h.IsTupleIter it a i ∧ e ≠ it ∧ a ≠ it ∧ a ≠ e) where
  mem := by simp
  obj := fun i h st b hb => by
    obtain ⟨⟨old, he⟩, ⟨o, ho, hc, hd⟩, _⟩ := st
    have e' : b = e ∨ b = it := by simpa using hb
    rcases e' with z | z
    · rw [z]; exact ⟨_, he, fun v q => nomatch q⟩
    · rw [z]; exact ⟨o, ho, fun v q => by rw [hd] at q; cases q⟩
  keep := fun i h h' st k => let ⟨⟨old, he⟩, hi, hne⟩ := st; ⟨⟨old, k e (by simp) _ he⟩, hi.at fun o q => k it (by simp) o q, hne⟩
  item := by
    intro X hP hw hK hc i pins s σ H E I hf st hg
    subst hP hw hK
    obtain ⟨⟨old, he⟩, hit, hne, hai, hae⟩ := st
    obtain ⟨xs, x, hq, hx⟩ := hg
    obtain ⟨its, rv, p, hz⟩ := I.tuple hq
    obtain ⟨u, hu, ru⟩ := rv.get hx
    have hel : e < s.heap.objs.size := Heap.lt_size he
    have hil : it < s.heap.objs.size := by obtain ⟨_, q, _⟩ := hit; exact Heap.lt_size q
    have hlt : i < its.toArray.size := by
      obtain ⟨z, _⟩ := List.getElem?_eq_some_iff.mp hu
      simpa using z
    refine wpAny_pyNext_enum_itemC (Draws.tuple (A := X.A.in1) (I.ok.hd hc) it a hai its.toArray) he ⟨hit, show s.heap.IsTuple a its.toArray from p⟩ hlt hne (by simp [hne, Ne.symm hae]) fun y h' tk hP ho hst' hT hsz hk => ?_
    have ey : y = u := by
      have z : its.toArray[i]? = some u := by simpa using hu
      exact Option.some.inj (hP.symm.trans z)
    subst ey
    refine ⟨_, rfl, wpAny_letOwnedTupleGo_enum (s := { s with heap := h', toks := tk + 1 }) ho fun h'' he' sb => ?_⟩
    have hT2 : h''.get? s.heap.objs.size = some { cls := .type "tuple", data := .seq #[.int i tk, y] } := (sb.2 _ (Nat.ne_of_gt hel)).trans hT
    have new : ObjOk X.prog X.w (upd H s.heap.objs.size (.tup [.int (i : Nat), x])) h'' s.heap.objs.size (.tup [.int (i : Nat), x]) :=
      ⟨by show 2 ≤ sizeLine; decide, [.int i tk, y], .cons ⟨_, rfl⟩ (.cons ru .nil), ⟨_, hT2, rfl, _, rfl⟩⟩
    have I1 : Inv X pins σ (upd H s.heap.objs.size (.tup [.int (i : Nat), x])) { s with heap := h'', toks := tk + 1 } :=
      I.turnedNew (ch := [e, it]) (fun b ob hb q => (sb.2 b (fun z => hb (by simp [z]))).trans (hk b ob (fun z => hb (by simp [z])) (fun z => hb (by simp [z])) q)) hf (Nat.le_refl _) new
    refine ⟨.ref s.heap.objs.size, _, I1, rfl, ⟨_, x, rfl, I.hok.fresh (Nat.le_refl _), rfl, fun ys hy => by rw [I.tuple_inj hy hq]; exact hx⟩, ⟨⟨y, ?_⟩, hst'.1.at fun o q => (sb.2 it (Ne.symm hne)).trans q, hne, hai, hae⟩, fun b hb => ?_⟩
    · have e1 : ((i + 1 : Nat) : Int) = (i : Int) + 1 := by omega
      rw [e1]; exact he'
    · have hb' : b < s.heap.objs.size := by
        have e' : b = e ∨ b = it := by simpa using hb
        rcases e' with z | z
        · rw [z]; exact hel
        · rw [z]; exact hil
      rw [upd_ne (Nat.ne_of_lt hb')]
      exact (hf b hb).1
  done := by
    intro X hP hw hK hc i pins s σ H E I hf st hg
    subst hP hw hK
    obtain ⟨⟨old, he⟩, hit, hne, hai, hae⟩ := st
    obtain ⟨xs, hq, hx⟩ := hg
    obtain ⟨its, rv, p, hz⟩ := I.tuple hq
    obtain ⟨f0, f1, f2, f3, f4, f5⟩ := hf it (by simp)
    have hl := rv.length
    have hn : its.toArray.size = i := by simp; omega
    refine wpAny_pyNext_enum_endD (Draws.tuple (A := X.A.in1) (I.ok.hd hc) it a hai its.toArray) he ⟨by rw [hn]; exact hit, show s.heap.IsTuple a its.toArray from p⟩ fun h' eb => ⟨rfl, I.turned (t' := s.toks) (fun b o hb q => eb b o hb q) f0 f1 f3 f4 f5⟩
  self := fun A i s Q E st h => let ⟨⟨_, he⟩, _⟩ := st; wpAny_pyIter_enum he h
/-- what is walked: a list (L), a tuple -/
def EnS (K : PySem.W.Frag) (L : Bool) (a : Addr) (xs : List V) (H : Hp) : Prop := match L with
  | true => SqL K H a xs
  | false => SqT K H a xs
def IteA (K : PySem.W.Frag) (L : Bool) (a : Addr) : It := match L with
  | true => Ite K a
  | false => IteT K a
theorem enS_ex {K : PySem.W.Frag} {L : Bool} {a : Addr} {xs : List V} {H H' : Hp} (e : Evl.Ex H H') (h : EnS K L a xs H) : EnS K L a xs H' := by
  cases L with
  | true => exact Evl.ex_l e h
  | false => exact Evl.ex_t e h
/-- enumerate(e), e a list or a tuple -/
def iEnA (K : PySem.W.Frag) (ta : TA) : TI := fun σ H R => ta σ H fun vs H1 => ∃ L a xs, vs = [.ref a] ∧ EnS K L a xs H1 ∧ R (IteA K L a) H1
theorem pi_enA {X : Cx} {e : Expr} {ta : TA} {p pos tpos : Pos} {elts : List Expr} {kk : Nat} (hg : Gl X "enumerate") (hm : X.mg "enumerate" = none) (ha : PA X [e] ta) (hs : starEach [e] X.env = [(false, eval e X.env)] := by rfl) :
    PI X (.Tuple elts kk tpos) (.Call (.Name "enumerate" p) [e] [] pos) (iEnA X.K ta) := by
  refine ⟨fun pins s σ H R I h => ?_⟩
  refine Call_ (ld_blt I hg hm boot_enumerate (PyProof.Rows.callWith_type1 (thn (ha.run pos pins s σ H _ I h) fun us s1 ⟨vs, H1, I1, r1, q1⟩ => ?_) hs rfl))
  obtain ⟨L, a, xs, ex, hq, q⟩ := q1
  subst ex
  cases r1 with
  | cons r rr =>
    cases rr
    cases r
    have hb : ∀ b ∈ [s1.heap.objs.size + 1, s1.heap.objs.size], FpOk X pins H1 b := fun b hb => by
      have e' : b = s1.heap.objs.size + 1 ∨ b = s1.heap.objs.size := by simpa using hb
      have hle : s1.heap.objs.size ≤ b := by
        rcases e' with z | z
        · rw [z]; exact Nat.le_succ _
        · rw [z]; exact Nat.le_refl _
      exact I1.fpOk hle (I1.hok.fresh hle)
    cases L with
    | true =>
      obtain ⟨its, rv, p', hz⟩ := I1.list hq
      refine call_enumerate_list p'.isList fun h' he hit hsz hk => wpAny_pyIter_enum he ?_
      have I2 : Inv X pins σ H1 { s1 with heap := h' } := I1.kept (t' := s1.toks) hk
      exact ⟨s1.heap.objs.size + 1, [s1.heap.objs.size + 1, s1.heap.objs.size], _, _, H1, rfl, I2, turn_enum a (s1.heap.objs.size + 1) s1.heap.objs.size, ⟨⟨.none, he⟩, hit, Nat.succ_ne_self _⟩, hb, q⟩
    | false =>
      obtain ⟨its, rv, p', hz⟩ := I1.tuple hq
      have hT : s1.heap.IsTuple a its.toArray := p'
      have hlt : a < s1.heap.objs.size := by obtain ⟨o, z, _⟩ := hT; exact Heap.lt_size z
      refine enum1_begins (begins_tuple a its.toArray) hT fun h' he hit hsz hk => wpAny_pyIter_enum he ?_
      have I2 : Inv X pins σ H1 { s1 with heap := h' } := I1.kept (t' := s1.toks) hk
      exact ⟨s1.heap.objs.size + 1, [s1.heap.objs.size + 1, s1.heap.objs.size], _, _, H1, rfl, I2, turn_enumT a (s1.heap.objs.size + 1) s1.heap.objs.size, ⟨⟨.none, he⟩, ⟨_, hit, rfl, rfl⟩, Nat.succ_ne_self _, Nat.ne_of_lt hlt, Nat.ne_of_lt (Nat.lt_succ_of_lt hlt)⟩, hb, q⟩
theorem for_enA {K : PySem.W.Frag} {L : Bool} {a : Addr} {xs : List V} {g : TG} {tb : TS} {D : Ends} {σ : L2.St} {H : Hp} (Pv : Nat → L2.St → Hp → Prop) (h0 : Pv 0 σ H) (hl : ∀ i σ H, i ≤ xs.length → Pv i σ H → EnS K L a xs H)
    (hs : ∀ i x σ H, xs[i]? = some x → Pv i σ H → ∀ T, H T = none → g (.ref T) σ (upd H T (.tup [.int (i : Nat), x])) fun σ2 H2 => tb { D with nx := Pv (i + 1), ct := Pv (i + 1), bk := D.nx } σ2 H2) (hd : ∀ σ H, Pv xs.length σ H → D.nx σ H) :
    ∃ W : Nat → Nat → L2.St → Hp → Prop, (∃ m, W 0 m σ H) ∧ ∀ i m σ H, W i m σ H →
      ((IteA K L a).stop i H ∧ D.nx σ H) ∨ ((IteA K L a).go i H ∧ ∃ N : L2.St → Hp → Prop, (∀ σ' H', N σ' H' → ∃ m', m' < m ∧ W (i + 1) m' σ' H') ∧ ∀ x H', (IteA K L a).yld i H x H' → g x σ H' fun σ2 H2 => tb { D with nx := N, ct := N, bk := D.nx } σ2 H2) := by
  refine ⟨fun i m σ H => m = xs.length - i ∧ i ≤ xs.length ∧ Pv i σ H, ⟨xs.length, by simp, Nat.zero_le _, h0⟩, ?_⟩
  rintro i m σ H ⟨rfl, hi, p⟩
  have q := hl i σ H hi p
  by_cases hlt : i < xs.length
  · cases L
    all_goals
      refine .inr ⟨⟨xs, xs[i], q, by simp [hlt]⟩, Pv (i + 1), fun σ' H' p' => ⟨xs.length - (i + 1), by omega, rfl, hlt, p'⟩, fun x H' y => ?_⟩
      obtain ⟨T, z, ev, hT, eH, y⟩ := y
      subst ev eH
      exact hs i z σ H (y xs q) p T hT
  · have e : i = xs.length := by omega
    subst e
    cases L
    · exact .inl ⟨⟨xs, q, rfl⟩, hd σ H p⟩
    · exact .inl ⟨⟨xs, q, Nat.le_refl _⟩, hd σ H p⟩
end Pl

end

section
set_option Elab.async false
set_option linter.all false
set_option maxRecDepth 100000
set_option maxHeartbeats 2000000
/-! PlJ: a Hook of one's own: which objects of the heap behind the top are looked at is said by paths; the checks are any Bools. -/
namespace Pl
open PySem PySem.Spec PyProof.Rows L2

abbrev Fg := PySem.W.Frag
/-! ### where things stand -/
def recAt (K : Fg) (T : String) (i : Nat) (p : Addr) : Addr := match PySem.W.recIn K p T with
  | some vs => (match vs[i]? with
    | some (.ref a) => a
    | _ => 0)
  | none => 0
inductive At where
  | g (x : Str)
  | m (C x : Str)
  | pg (C x : Str)
  | ps (C x : Str)
  | cm (C x : Str)
def At.ad (K : Fg) : At → Addr
  | .g x => He.ga K x
  | .m C x => He.ma K (He.ga K C) x
  | .pg C x => recAt K "property" 0 (He.ma K (He.ga K C) x)
  | .ps C x => recAt K "property" 1 (He.ma K (He.ga K C) x)
  | .cm C x => recAt K "classmethod" 0 (He.ma K (He.ga K C) x)
def nsOf (K : Fg) (C : Addr) : Addr := match K.lookup C with
  | some ⟨_, _, .cls cd, _⟩ => cd.ns
  | _ => 0
def fnRefs (K : Fg) (f : Addr) : List Addr := match K.lookup f with
  | some ⟨_, _, .func fd, _⟩ => He.refV fd.code ++ (He.refV fd.defaults ++ fd.closure.map (·.2))
  | _ => []
def seqRefs (K : Fg) (f : Addr) : List Addr := match K.lookup f with
  | some ⟨_, _, .func fd, _⟩ => (He.refV fd.defaults).flatMap fun t => match K.lookup t with
    | some ⟨_, _, .seq its _, _⟩ => its.toList.flatMap He.refV
    | _ => []
  | _ => []
/-- the part of the heap that is looked at: the module's names N, the classes C (their own dicts), the members M of classes, the defs D -/
def seeG (N C : List Str) (M : List (Str × Str)) (D : List At) (g : Addr → Option Obj) : Fg :=
  let a1 := mainGlobals :: cStatics :: N.map (He.ga (He.frG g [mainGlobals]))
  let a2 := a1 ++ C.map fun x => nsOf (He.frG g a1) (He.ga (He.frG g a1) x)
  let K2 := He.frG g a2
  let a3 := a2 ++ M.map fun p => He.ma K2 (He.ga K2 p.1) p.2
  let K3 := He.frG g a3
  let ds := D.map (At.ad K3)
  let K4 := He.frG g (a3 ++ ds)
  let a5 := a3 ++ ds ++ ds.flatMap (fnRefs K4)
  let K5 := He.frG g a5
  He.frG g (a5 ++ ds.flatMap (seqRefs K5))
theorem seeG_in {N C : List Str} {M : List (Str × Str)} {D : List At} {h : Heap} : (seeG N C M D h.get?).In h := He.frG_in
/-! ### a def -/
abbrev FnZ : Type := Option (Str × Str × Arguments × FuncBody × Scope × Addr × List Str × Addr)
def fnZ (K : Fg) (a : Addr) : FnZ := match K.lookup a with
  | some ⟨_, _, .func fd, _⟩ => some (fd.name, fd.qualname, fd.params, fd.body, fd.scope, fd.globals, fd.closure.map (·.1), fd.builtins)
  | _ => none
structure DefP where
  at_ : At
  name : Str
  qual : Str
  st : Stmt
  dfl : List He.Dv := []
  clo : List Str := []
def DefP.val (d : DefP) : FnZ := some (d.name, d.qual, defArgs d.st, .stmts (defBody d.st), defScope d.st, mainGlobals, d.clo, builtinsNs)
def DefP.dvs (K : Fg) (d : DefP) : List V := d.dfl.map (He.Dv.v K)
def DefP.ok (K : Fg) (d : DefP) : Bool := PySem.W.keepIn K (.ref (d.at_.ad K)) && (PySem.W.isFn K (.ref (d.at_.ad K)) && (match K.lookup (d.at_.ad K) with
  | some ⟨_, _, .func fd, _⟩ => PySem.W.codeIn K fd.code d.qual && He.dflB K fd.defaults (d.dvs K)
  | _ => false))
theorem DefP.funD {K : Fg} {d : DefP} (hc : d.clo = []) (e : fnZ K (d.at_.ad K) = d.val) (c : d.ok K = true) : ∃ fd, FunD K d.name d.qual (defArgs d.st) (defBody d.st) (defScope d.st) (d.dvs K) [] (d.at_.ad K) fd := by
  obtain ⟨kp, c1⟩ := He.ba c
  obtain ⟨_, c2⟩ := He.ba c1
  unfold fnZ at e
  cases q : K.lookup (d.at_.ad K) with
  | none =>
    rw [q] at c2
    cases c2
  | some o =>
    obtain ⟨oc, od, dt, osl⟩ := o
    rw [q] at c2 e
    cases dt with
    | func fd =>
      obtain ⟨n1, n2, n3, n4, n5, n6, n7, n8, n9, n10, n11, n12, n13, n14, n15⟩ := fd
      have e2 : (some (n1, n2, n3, n4, n5, n6, n7.map (·.1), n15) : FnZ) = some (d.name, d.qual, defArgs d.st, .stmts (defBody d.st), defScope d.st, mainGlobals, d.clo, builtinsNs) := e
      rw [hc] at e2
      simp only [Option.some.injEq, Prod.mk.injEq, List.map_eq_nil_iff] at e2
      obtain ⟨h1, h2, h3, h4, h5, h6, h7, h8⟩ := e2
      subst h1 h2 h3 h4 h5 h6 h7 h8
      obtain ⟨k1, k3⟩ := He.ba (show (PySem.W.codeIn K n13 d.qual && He.dflB K n8 (d.dvs K)) = true from c2)
      exact ⟨_, ⟨oc, od, n8, n9, n10, n11, n12, n13, n14, osl, rfl, q, k1, He.dflB_ok k3, .inl rfl⟩, kp⟩
    | _ => cases c2
/-! ### the Hook -/
def obsP (ck : List (Fg → Bool)) (fn : List DefP) (K : Fg) : Bool × List FnZ := ((ck.all fun f => f K) && fn.all fun d => d.ok K, fn.map fun d => fnZ K (d.at_.ad K))
def valP (fn : List DefP) : Bool × List FnZ := (true, fn.map DefP.val)
def SaysP (ck : List (Fg → Bool)) (fn : List DefP) (K : Fg) : Prop := obsP ck fn K = valP fn
structure See where
  N : List Str
  C : List Str
  M : List (Str × Str)
  D : List At
def See.fg (z : See) (g : Addr → Option Obj) : Fg := seeG z.N z.C z.M z.D g
def hookP (z : See) (ck : List (Fg → Bool)) (fn : List DefP) : PySem.W.Hook where
  α := Bool × List FnZ
  obs := fun s => obsP ck fn (z.fg s.heap.get?)
  val := fun _ => valP fn
  says := fun _ h => ∃ K : Fg, K.In h ∧ SaysP ck fn K
  of := fun _ _ e => ⟨_, seeG_in, e⟩
  keeps := fun _ _ _ ⟨K, hK, c⟩ k => ⟨K, PySem.W.Frag.In.keeps hK k, c⟩
theorem obsP_eq {z : See} {ck : List (Fg → Bool)} {fn : List DefP} {g : Addr → Option Obj} {s : Shared} (h : ∀ a, g a = s.heap.get? a) : obsP ck fn (z.fg g) = (hookP z ck fn).obs s := by
  have e : g = s.heap.get? := funext h
  rw [e] <;> rfl
section
variable {ck : List (Fg → Bool)} {fn : List DefP} {K : Fg}
theorem SaysP.fact (c : SaysP ck fn K) (i : Nat) {f : Fg → Bool} (h : ck[i]? = some f := by rfl) : f K = true := by
  have c1 := (He.ba (show ((ck.all fun f => f K) && fn.all fun d => d.ok K) = true from congrArg (fun z : Bool × List FnZ => z.1) c)).1
  exact List.all_eq_true.mp c1 f (List.mem_of_getElem? h)
theorem SaysP.okd (c : SaysP ck fn K) (i : Nat) {d : DefP} (h : fn[i]? = some d := by rfl) : d.ok K = true := by
  have c2 := (He.ba (show ((ck.all fun f => f K) && fn.all fun d => d.ok K) = true from congrArg (fun z : Bool × List FnZ => z.1) c)).2
  exact List.all_eq_true.mp c2 d (List.mem_of_getElem? h)
theorem SaysP.valD (c : SaysP ck fn K) (i : Nat) {d : DefP} (h : fn[i]? = some d := by rfl) : fnZ K (d.at_.ad K) = d.val := by
  have e : fn.map (fun d => fnZ K (d.at_.ad K)) = fn.map DefP.val := congrArg (fun z : Bool × List FnZ => z.2) c
  have e2 : (fn.map fun d => fnZ K (d.at_.ad K))[i]? = (fn.map DefP.val)[i]? := by rw [e]
  rw [List.getElem?_map, List.getElem?_map, h] at e2
  exact Option.some.inj e2
theorem SaysP.def_ (c : SaysP ck fn K) (i : Nat) {d : DefP} (h : fn[i]? = some d := by rfl) (hc : d.clo = [] := by rfl) : ∃ fd, FunD K d.name d.qual (defArgs d.st) (defBody d.st) (defScope d.st) (d.dvs K) [] (d.at_.ad K) fd :=
  DefP.funD hc (c.valD i h) (c.okd i h)
end
/-! ### checks -/
def ckGlo (x : Str) (K : Fg) : Bool := He.eqO (PySem.W.nsIn K mainGlobals x) (some (some (.ref (He.ga K x))))
def ckFree (x : Str) (K : Fg) : Bool := He.eqO (PySem.W.nsIn K mainGlobals x) (some none)
/-- a class with slots; its descriptors ps by name and place -/
def ckSl (x : Str) (K : Fg) : Bool := PySem.W.plainGet K (He.ga K x) Str.empty && (PySem.W.isClsIn K (He.ga K x) && (PySem.W.plainOver K (He.ga K x) && He.eqO (PySem.W.findIn K (.ref (He.ga K x)) "__setattr__") (some (some (.builtin "object.__setattr__")))))
def ckSlot (x f : Str) (i : Nat) (K : Fg) : Bool := He.eqO (PySem.W.findIn K (.ref (He.ga K x)) f) (some (some (.ref (He.ma K (He.ga K x) f)))) && (He.eqO (PySem.W.specialIn K (.ref (He.ma K (He.ga K x) f)) "__get__") (some (some (.builtin "member_descriptor.__get__"))) &&
  (decide (PySem.W.takesIn K (.ref (He.ma K (He.ga K x) f)) = some true) && (decide (PySem.W.typeIn K (.ref (He.ma K (He.ga K x) f)) = some (.type "member_descriptor")) && (decide (PySem.W.slotIn K (He.ma K (He.ga K x) f) (He.ga K x) = some i) && decide (i < 1000)))))
def ckCls (x : Str) (K : Fg) : Bool := PySem.W.plainGet K (He.ga K x) Str.empty && (PySem.W.hasDictIn K (He.ga K x) && (PySem.W.plainOver K (He.ga K x) && He.eqO (PySem.W.findIn K (.ref (He.ga K x)) "__setattr__") (some (some (.builtin "object.__setattr__")))))
def ckNo (x f : Str) (K : Fg) : Bool := He.eqO (PySem.W.findIn K (.ref (He.ga K x)) f) (some none)
def ckMeth (x m : Str) (K : Fg) : Bool := He.eqO (PySem.W.findIn K (.ref (He.ga K x)) m) (some (some (.ref (He.ma K (He.ga K x) m)))) && (PySem.W.isFn K (.ref (He.ma K (He.ga K x) m)) && PySem.W.keepIn K (.ref (He.ma K (He.ga K x) m)))
def ckMk (x : Str) (K : Fg) : Bool := PySem.W.makesIn K (He.ga K x) && (He.eqO (PySem.W.findIn K (.ref (He.ga K x)) "__init__") (some (some (.ref (He.ma K (He.ga K x) "__init__")))) && (PySem.W.isFn K (.ref (He.ma K (He.ga K x) "__init__")) && PySem.W.keepIn K (.ref (He.ga K x))))
/-- a property and its getter -/
def ckProp (x f : Str) (K : Fg) : Bool := He.eqO (PySem.W.findIn K (.ref (He.ga K x)) f) (some (some (.ref (He.ma K (He.ga K x) f)))) && (He.eqO (PySem.W.specialIn K (.ref (He.ma K (He.ga K x) f)) "__get__") (some (some (.builtin "property.__get__"))) &&
  (decide (PySem.W.takesIn K (.ref (He.ma K (He.ga K x) f)) = some true) && (match PySem.W.recIn K (He.ma K (He.ga K x) f) "property" with
    | some (v :: _) => decide (v = .ref ((At.pg x f).ad K))
    | _ => false)))
def ckSet (x f : Str) (K : Fg) : Bool := He.eqO (PySem.W.takerIn K (He.ga K x) f) (some (some (.ref (He.ma K (He.ga K x) f)))) && (decide (PySem.W.typeIn K (.ref (He.ma K (He.ga K x) f)) = some (.type "property")) && (match PySem.W.recIn K (He.ma K (He.ga K x) f) "property" with
    | some (_ :: v :: _) => decide (v = .ref ((At.ps x f).ad K))
    | _ => false))
def ckCm (x m : Str) (K : Fg) : Bool := PySem.W.readsIn K (He.ga K x) (.type "type") && (He.eqO (PySem.W.specialIn K (.ref (He.ga K x)) "__getattribute__") (some (some (.builtin "type.__getattribute__"))) &&
  ((match PySem.W.findCls K (.ref (He.ga K x)) (.type "type") m with
    | some (.get a b c d) => decide (a = .builtin "classmethod.__get__") && (decide (b = .ref (He.ma K (He.ga K x) m)) && (decide (c = .none) && decide (d = .ref (He.ga K x))))
    | _ => false) && ((match PySem.W.recIn K (He.ma K (He.ga K x) m) "classmethod" with
    | some (v :: _) => decide (v = .ref ((At.cm x m).ad K))
    | _ => false) && PySem.W.fnIn K ((At.cm x m).ad K))))
/-- an own exception below ValueError without __init__ -/
def ckExc0 (x : Str) (B : List Str) (K : Fg) : Bool := PySem.W.excIn K (He.ga K x) (B.map (fun y => Value.ref (He.ga K y)) ++ He.veBase) "ValueError.__new__" && (PySem.W.keepIn K (.ref (He.ga K x)) && (decide (PySem.W.subIn K (.ref (He.ga K x)) (.type "BaseException") = some true) && decide (PySem.W.typeIn K (.ref (He.ga K x)) = some (.type "type"))))
def ckExm (x y : Str) (b : Bool) (K : Fg) : Bool := decide (PySem.W.exmOne K (.ref (He.ga K x)) (.ref (He.ga K y)) = some b)
def ckXcls (C : Addr) (K : Fg) : Bool := match K.lookup C with
  | some ⟨.type "type", _, .cls cd, sl⟩ => (match cd.mro, sl.toList with
    | .ref C' :: bm, [_, _, _, _, some (.builtin n), _] => C' == C && n == "ValueError.__new__" && !cd.hasDel && cd.hasDict && PySem.HandSPX.refsVE bm
    | _, _ => false)
  | _ => false
section
variable {K : Fg} {h : Heap} {mg : Str → Option Value} {x f m y : Str} {i : Nat} {b : Bool}
theorem ckGlo_ok (X : K.In h) (G : h.Ns mainGlobals mg) (c : ckGlo x K = true) : mg x = some (.ref (He.ga K x)) := PySem.W.mg_of X G (He.eqO_ok c)
theorem ckFree_ok (X : K.In h) (G : h.Ns mainGlobals mg) (c : ckFree x K = true) : mg x = none := PySem.W.mg_none_of X G (He.eqO_ok c)
theorem ckSl_ok (c : ckSl x K = true) : SlX.SCls K (He.ga K x) := by
  obtain ⟨a, c⟩ := He.ba c
  obtain ⟨b, c⟩ := He.ba c
  obtain ⟨d, e⟩ := He.ba c
  exact ⟨a, b, d, He.eqO_ok e⟩
theorem ckSlot_ok (c : ckSlot x f i K = true) : SlX.Slot1 K (He.ga K x) f (He.ma K (He.ga K x) f) i := by
  obtain ⟨a, c⟩ := He.ba c
  obtain ⟨b, c⟩ := He.ba c
  obtain ⟨d, c⟩ := He.ba c
  obtain ⟨e, c⟩ := He.ba c
  obtain ⟨g, k⟩ := He.ba c
  exact ⟨He.eqO_ok a, He.eqO_ok b, of_decide_eq_true d, of_decide_eq_true e, of_decide_eq_true g, of_decide_eq_true k⟩
theorem ckCls_ok (c : ckCls x K = true) : Cls K (He.ga K x) := by
  obtain ⟨a, c⟩ := He.ba c
  obtain ⟨b, c⟩ := He.ba c
  obtain ⟨d, e⟩ := He.ba c
  exact ⟨a, b, d, He.eqO_ok e⟩
theorem ckNo_ok (c : ckNo x f K = true) : NoAttr K (He.ga K x) f := He.eqO_ok c
theorem ckMeth_ok (c : ckMeth x m K = true) : Meth K (He.ga K x) m (He.ma K (He.ga K x) m) := by
  obtain ⟨a, c⟩ := He.ba c
  obtain ⟨b, d⟩ := He.ba c
  exact ⟨He.eqO_ok a, b, d⟩
theorem ckMk_ok (c : ckMk x K = true) : Mk K (He.ga K x) (He.ma K (He.ga K x) "__init__") := by
  obtain ⟨a, c⟩ := He.ba c
  obtain ⟨b, c⟩ := He.ba c
  obtain ⟨d, e⟩ := He.ba c
  exact ⟨a, He.eqO_ok b, d, e⟩
theorem ckProp_ok (c : ckProp x f K = true) : PropOf K (He.ga K x) f (He.ma K (He.ga K x) f) ((At.pg x f).ad K) := by
  obtain ⟨a, c⟩ := He.ba c
  obtain ⟨b, c⟩ := He.ba c
  obtain ⟨d, c⟩ := He.ba c
  refine ⟨He.eqO_ok a, He.eqO_ok b, of_decide_eq_true d, ?_⟩
  cases q : PySem.W.recIn K (He.ma K (He.ga K x) f) "property" with
  | none =>
    rw [q] at c
    cases c
  | some vs =>
    rw [q] at c
    cases vs with
    | nil => cases c
    | cons v r => exact ⟨r, by rw [of_decide_eq_true c]⟩
theorem ckSet_ok (c : ckSet x f K = true) : SetOf K (He.ga K x) f (He.ma K (He.ga K x) f) ((At.ps x f).ad K) := by
  obtain ⟨a, c⟩ := He.ba c
  obtain ⟨b, c⟩ := He.ba c
  refine ⟨He.eqO_ok a, of_decide_eq_true b, ?_⟩
  cases q : PySem.W.recIn K (He.ma K (He.ga K x) f) "property" with
  | none =>
    rw [q] at c
    cases c
  | some vs =>
    rw [q] at c
    cases vs with
    | nil => cases c
    | cons u r =>
      cases r with
      | nil => cases c
      | cons v r => exact ⟨u, r, by rw [of_decide_eq_true c]⟩
theorem ckCm_ok (c : ckCm x m K = true) : ClX.CRead K (He.ga K x) (.type "type") ∧ ClX.CMet K (He.ga K x) (.type "type") m (He.ma K (He.ga K x) m) ((At.cm x m).ad K) := by
  obtain ⟨a, c⟩ := He.ba c
  obtain ⟨b, c⟩ := He.ba c
  obtain ⟨d, c⟩ := He.ba c
  obtain ⟨e, k⟩ := He.ba c
  refine ⟨⟨a, He.eqO_ok b⟩, ⟨?_, ?_, k⟩⟩
  · cases q : PySem.W.findCls K (.ref (He.ga K x)) (.type "type") m with
    | none =>
      rw [q] at d
      cases d
    | some z =>
      rw [q] at d
      cases z with
      | get p1 p2 p3 p4 =>
        obtain ⟨d1, d⟩ := He.ba d
        obtain ⟨d2, d⟩ := He.ba d
        obtain ⟨d3, d4⟩ := He.ba d
        rw [of_decide_eq_true d1, of_decide_eq_true d2, of_decide_eq_true d3, of_decide_eq_true d4]
      | _ => cases d
  · cases q : PySem.W.recIn K (He.ma K (He.ga K x) m) "classmethod" with
    | none =>
      rw [q] at e
      cases e
    | some vs =>
      rw [q] at e
      cases vs with
      | nil => cases e
      | cons v r => exact ⟨r, by rw [of_decide_eq_true e]⟩
theorem ckExc0_ok {B : List Str} (c : ckExc0 x B K = true) : PySem.W.excIn K (He.ga K x) (B.map (fun y => Value.ref (He.ga K y)) ++ He.veBase) "ValueError.__new__" = true ∧ PySem.W.keepIn K (.ref (He.ga K x)) = true ∧ PySem.W.subIn K (.ref (He.ga K x)) (.type "BaseException") = some true ∧
    PySem.W.typeIn K (.ref (He.ga K x)) = some (.type "type") := by
  obtain ⟨a, c⟩ := He.ba c
  obtain ⟨b, c⟩ := He.ba c
  obtain ⟨d, e⟩ := He.ba c
  exact ⟨a, b, of_decide_eq_true d, of_decide_eq_true e⟩
theorem ckExm_ok (c : ckExm x y b K = true) : PySem.W.exmOne K (.ref (He.ga K x)) (.ref (He.ga K y)) = some b := of_decide_eq_true c
theorem ckXcls_ok {C : Addr} (q : ckXcls C K = true) : ∃ nm q N bs bm sn sub ab col dd k0 k1 k2 k3 k5, K.lookup C = some (excClassObj nm q C N bs bm true sn sub ab col dd k0 k1 k2 k3 k5 "ValueError.__new__") ∧ PySem.HandSPX.refsVE bm = true := by
  unfold ckXcls at q
  split at q
  · rename_i dd cd sl ho
    split at q
    · rename_i C' bm k0 k1 k2 k3 n k5 hm hs
      simp only [Bool.and_eq_true, beq_iff_eq, Bool.not_eq_true'] at q
      obtain ⟨⟨⟨⟨rfl, rfl⟩, hdel⟩, hdc⟩, ht⟩ := q
      obtain ⟨nm, bs, mro, ns, qn, hd, sn, sub, ab, col, del⟩ := cd
      dsimp only at hm hdel hdc
      subst hm hdel hdc
      have hsl : sl = #[k0, k1, k2, k3, some (.builtin "ValueError.__new__"), k5] := by
        obtain ⟨l⟩ := sl
        simp only at hs
        rw [hs]
      subst hsl
      exact ⟨nm, qn, ns, bs, bm, sn, sub, ab, col, dd, k0, k1, k2, k3, k5, ho, ht⟩
    · cases q
  · cases q
end
end Pl

end

section
set_option Elab.async false
set_option linter.all false
set_option maxRecDepth 100000
set_option maxHeartbeats 2000000
/-! PlK: the own exceptions out of the Hook's checks. -/
namespace Pl
open PySem PySem.Spec PyProof.Rows L2

def ccOf (K : Fg) (f : Addr) : Addr := match K.lookup f with
  | some ⟨_, _, .func fd, _⟩ => (match fd.closure with
    | [(_, c)] => c
    | _ => 0)
  | _ => 0
def cdOf (K : Fg) (f : Addr) : Addr := match K.lookup f with
  | some ⟨_, _, .func fd, _⟩ => (match fd.code with
    | .ref c => c
    | _ => 0)
  | _ => 0
/-- the def at f closes over the class at C; its code tells the file; no defaults -/
def ckXf (file q : Str) (C f : Addr) (K : Fg) : Bool := match K.lookup f with
  | some ⟨_, _, .func fd, _⟩ => (match fd.closure, fd.code, fd.defaults, fd.kwdefaults with
    | [(x, cc)], .ref cd, .none, .none => decide (x = "__class__") && ((match K.lookup cc with
      | some ⟨_, _, .cell (some v), _⟩ => decide (v = .ref C)
      | _ => false) && ((match K.lookup cd with
      | some ⟨_, _, .fields vs, _⟩ => (match (vs[2]? : Option Value) with
        | some (.str y _) => file == y
        | _ => false)
      | _ => false) && PySem.W.codeIn K (.ref cd) q))
    | _, _, _, _ => false)
  | _ => false
def initAt (K : Fg) (x : Str) : Addr := He.ma K (He.ga K x) "__init__"
def ckX (file : Str) (x : Str) (K : Fg) : Bool := ckXcls (He.ga K x) K && (He.eqO (PySem.W.findIn K (.ref (He.ga K x)) "__setattr__") (some (some (.builtin "object.__setattr__"))) && (He.eqO (PySem.W.findIn K (.ref (He.ga K x)) "__init__") (some (some (.ref (initAt K x)))) &&
  (decide (PySem.W.typeIn K (.ref (initAt K x)) = some (.type "function")) && (PySem.W.keepIn K (.ref (He.ga K x)) && (decide (PySem.W.subIn K (.ref (He.ga K x)) (.type "BaseException") = some true) && (decide (PySem.W.typeIn K (.ref (He.ga K x)) = some (.type "type")) &&
  (decide (PySem.W.mroIn K (He.ga K x) (.ref (He.ga K x)) = some true) && (decide (PySem.W.nsIn K cStatics "thirdparty.any" = some none) && (decide (PySem.W.ks_superIn K (He.ga K x) (He.ga K x) "__init__" = some (some (.builtin "ValueError.__init__"))) &&
  (decide (PySem.W.subIn K (.ref (He.ga K x)) (.type "ValueError") = some true) && ckXf file (x ++ ".__init__") (He.ga K x) (initAt K x) K))))))))))
section
variable {P : Program} {K : Fg} {mg : Str → Option Value} {x : Str} {C f : Addr} {d : DefP}
theorem ckXf_ok {file q : Str} (c : ckXf file q C f K = true) : (∃ oc od fd osl, K.lookup f = some ⟨oc, od, .func fd, osl⟩ ∧ fd.closure = [(("__class__" : Str), ccOf K f)] ∧ fd.code = .ref (cdOf K f) ∧ fd.defaults = .none ∧ fd.kwdefaults = .none) ∧
    (∃ cl cld csl, K.lookup (ccOf K f) = some ⟨cl, cld, .cell (some (.ref C)), csl⟩) ∧ (∃ ccl cdd vs ccs y tf, K.lookup (cdOf K f) = some ⟨ccl, cdd, .fields vs, ccs⟩ ∧ vs[2]? = some (.str y tf) ∧ (file == y) = true) ∧ PySem.W.codeIn K (.ref (cdOf K f)) q = true := by
  unfold ckXf at c
  unfold ccOf cdOf
  split at c
  · rename_i oc od fd osl ho
    rw [ho]
    obtain ⟨n1, n2, n3, n4, n5, n6, n7, n8, n9, n10, n11, n12, n13, n14, n15⟩ := fd
    dsimp only at c ⊢
    split at c
    · rename_i y cc cd
      obtain ⟨c1, c⟩ := He.ba c
      obtain ⟨c2, c⟩ := He.ba c
      obtain ⟨c3, c4⟩ := He.ba c
      have ey : y = "__class__" := of_decide_eq_true c1
      subst ey
      dsimp only
      refine ⟨⟨oc, od, _, osl, rfl, rfl, rfl, rfl, rfl⟩, ?_, ?_, c4⟩
      · split at c2
        · rename_i a1 a2 v a3 hcc
          rw [of_decide_eq_true c2] at hcc
          exact ⟨_, _, _, hcc⟩
        · cases c2
      · split at c3
        · rename_i a1 a2 vs a3 hcd
          split at c3
          · rename_i y tf hv
            exact ⟨_, _, _, _, _, _, hcd, hv, c3⟩
          · cases c3
        · cases c3
    · cases c
  · cases c
theorem ckX_cls (c : ckX P.main.file x K = true) (nosup : mg "super" = none) (top : (P.main.scope.names.lookup ("super" : Str)).isSome = false) : XCls P K mg (He.ga K x) (initAt K x) (ccOf K (initAt K x)) (cdOf K (initAt K x)) := by
  obtain ⟨c1, c⟩ := He.ba c
  obtain ⟨c2, c⟩ := He.ba c
  obtain ⟨c3, c⟩ := He.ba c
  obtain ⟨c4, c⟩ := He.ba c
  obtain ⟨c5, c⟩ := He.ba c
  obtain ⟨c6, c⟩ := He.ba c
  obtain ⟨c7, c⟩ := He.ba c
  obtain ⟨c8, c⟩ := He.ba c
  obtain ⟨c9, c⟩ := He.ba c
  obtain ⟨c10, c⟩ := He.ba c
  obtain ⟨c11, c12⟩ := He.ba c
  obtain ⟨_, x2, x3, _⟩ := ckXf_ok c12
  exact ⟨ckXcls_ok c1, He.eqO_ok c2, He.eqO_ok c3, of_decide_eq_true c4, c5, of_decide_eq_true c6, of_decide_eq_true c7, x2, x3, of_decide_eq_true c8, of_decide_eq_true c9, of_decide_eq_true c10, of_decide_eq_true c11, nosup, top⟩
theorem ckX_fn {file : Str} {as : List Arg} {body : List Stmt} {sc : Scope} (c : ckX file x K = true) (hd : d.at_.ad K = initAt K x) (hn : d.name = "__init__") (hq : d.qual = x ++ ".__init__") (e : fnZ K (d.at_.ad K) = d.val) (h1 : defArgs d.st = xPar as) (h2 : defBody d.st = body) (h3 : defScope d.st = sc) :
    XFn K (initAt K x) (ccOf K (initAt K x)) (cdOf K (initAt K x)) as body sc := by
  obtain ⟨_, c⟩ := He.ba c
  obtain ⟨_, c⟩ := He.ba c
  obtain ⟨_, c⟩ := He.ba c
  obtain ⟨_, c⟩ := He.ba c
  obtain ⟨_, c⟩ := He.ba c
  obtain ⟨_, c⟩ := He.ba c
  obtain ⟨_, c⟩ := He.ba c
  obtain ⟨_, c⟩ := He.ba c
  obtain ⟨_, c⟩ := He.ba c
  obtain ⟨_, c⟩ := He.ba c
  obtain ⟨_, c⟩ := He.ba c
  obtain ⟨⟨oc, od, fd, osl, ho, f1, f2, f3, f4⟩, _, _, hcd⟩ := ckXf_ok c
  obtain ⟨n1, n2, n3, n4, n5, n6, n7, n8, n9, n10, n11, n12, n13, n14, n15⟩ := fd
  dsimp only at f1 f2 f3 f4
  rw [f1, f2, f3, f4] at ho
  rw [hd] at e
  unfold fnZ at e
  rw [ho] at e
  have e2 : (some (n1, n2, n3, n4, n5, n6, [("__class__" : Str)], n15) : FnZ) = some (d.name, d.qual, defArgs d.st, .stmts (defBody d.st), defScope d.st, mainGlobals, d.clo, builtinsNs) := e
  rw [hn, hq, h1, h2, h3] at e2
  simp only [Option.some.injEq, Prod.mk.injEq] at e2
  obtain ⟨g1, g2, g3, g4, g5, g6, g7, g8⟩ := e2
  subst g1 g2 g3 g4 g5 g6 g8
  exact ⟨oc, od, _, n10, n11, n12, n14, osl, ho, hcd⟩
end
/-- an exception with one field, two fields, at C -/
def Exc1 (P : Program) (K : Fg) (mg : Str → Option Value) (xn f1 : Str) (C : Addr) : Prop := ∃ fI cc cda tx j a0 a1 p0 p1 p2 p3 p4 p5 q1 q2 q3 q4, X1 P K mg xn f1 C fI cc cda tx j a0 a1 p0 p1 p2 p3 p4 p5 q1 q2 q3 q4
def Exc2 (P : Program) (K : Fg) (mg : Str → Option Value) (xn f1 f2 : Str) (C : Addr) : Prop := ∃ fI cc cda tx j a0 a1 a2 p0 p1 p2 p3 p4 p5 q1 q2 q3 q4 r1 r2 r3 r4, X2 P K mg xn f1 f2 C fI cc cda tx j a0 a1 a2 p0 p1 p2 p3 p4 p5 q1 q2 q3 q4 r1 r2 r3 r4
section
variable {X : Cx} {C : Addr} {xn f1 f2 : Str} {k : Nat}
theorem ps_rx1 {a : Expr} {ta : TA} {W : WX} {p pos pos2 : Pos} (hc : X.calm = true) (D : Exc1 X.prog X.K X.mg xn f1 C) (hr : Room k X.A) (hk : 1 ≤ k) (tk : Takes X W) (ha : PA X [a] ta) (hg : Gl X xn) (hdb : (xn == ("__debug__" : Str)) = false := by decide)
    (he : starEach (a :: []) X.env = (false, eval a X.env) :: starEach [] X.env := by rfl) (hpl : (backTo pos (starEach [] X.env)).any (·.1) = false := by rfl) :
    PS X (.Raise (some (.Call (.Name xn p) [a] [] pos)) none pos2) (tRaiseX1 C f1 W ta) := by
  obtain ⟨_, _, _, _, _, _, _, _, _, _, _, _, _, _, _, _, _, D⟩ := D
  exact ps_raiseX1 hc D hr hk tk ha hg hdb he hpl
theorem ps_rx2 {a b : Expr} {ta : TA} {W : WX} {p pos pos2 : Pos} (hc : X.calm = true) (D : Exc2 X.prog X.K X.mg xn f1 f2 C) (hr : Room k X.A) (hk : 1 ≤ k) (tk : Takes X W) (ha : PA X [a, b] ta) (hg : Gl X xn) (hdb : (xn == ("__debug__" : Str)) = false := by decide)
    (he : starEach (a :: [b]) X.env = (false, eval a X.env) :: starEach [b] X.env := by rfl) (hpl : (backTo pos (starEach [b] X.env)).any (·.1) = false := by rfl) :
    PS X (.Raise (some (.Call (.Name xn p) [a, b] [] pos)) none pos2) (tRaiseX2 C f1 f2 W ta) := by
  obtain ⟨_, _, _, _, _, _, _, _, _, _, _, _, _, _, _, _, _, _, _, _, _, _, D⟩ := D
  exact ps_raiseX2 hc D hr hk tk ha hg hdb he hpl
end
section
variable {P : Program} {K : Fg} {mg : Str → Option Value} {x f1 f2 : Str} {d : DefP}
theorem exc1_of {tx : Str} {j : Nat} {a0 a1 p0 p1 p2 p3 p4 p5 q1 q2 q3 q4 : Pos} (c : ckX P.main.file x K = true) (no1 : ckNo x f1 K = true) (gC : mg x = some (.ref (He.ga K x))) (nosup : mg "super" = none) (e : fnZ K (d.at_.ad K) = d.val)
    (top : (P.main.scope.names.lookup ("super" : Str)).isSome = false) (hd : d.at_ = .m x "__init__") (hn : d.name = "__init__") (hq : d.qual = x ++ ".__init__") (h1 : defArgs d.st = xPar [xArg "self" a0, xArg f1 a1]) (h2 : defBody d.st = [xSup tx j p0 p1 p2 p3 p4 p5, xPut f1 q1 q2 q3 q4]) (h3 : defScope d.st = xSc [f1])
    (so : SupOk tx j p0 p1 p2 p3 p4 p5) (n1 : f1 ≠ "self") (n2 : f1 ≠ "super") (n3 : f1 ≠ "__class__") (n4 : (f1 == ("__debug__" : Str)) = false)
    (bd : ∀ cc cda x v qual doc pm an ct, bindArgs (PySem.W.ksFn "__init__" qual (xPar [xArg "self" a0, xArg f1 a1]) [xSup tx j p0 p1 p2 p3 p4 p5, xPut f1 q1 q2 q3 q4] (xSc [f1]) .none .none doc pm an (.ref cda) ct cc) ⟨[.ref x, v], []⟩ = pure [(("self" : Str), .ref x), (f1, v)]) :
    Exc1 P K mg x f1 (He.ga K x) :=
  ⟨_, _, _, _, _, _, _, _, _, _, _, _, _, _, _, _, _, ⟨ckX_cls c nosup top, ckX_fn c (by rw [hd]; rfl) hn hq e h1 h2 h3, so, He.eqO_ok no1, n1, n2, n3, n4, bd _ _, gC⟩⟩
theorem exc2_of {tx : Str} {j : Nat} {a0 a1 a2 p0 p1 p2 p3 p4 p5 q1 q2 q3 q4 r1 r2 r3 r4 : Pos} (c : ckX P.main.file x K = true) (no1 : ckNo x f1 K = true) (no2 : ckNo x f2 K = true) (gC : mg x = some (.ref (He.ga K x))) (nosup : mg "super" = none) (e : fnZ K (d.at_.ad K) = d.val)
    (top : (P.main.scope.names.lookup ("super" : Str)).isSome = false) (hd : d.at_ = .m x "__init__") (hn : d.name = "__init__") (hq : d.qual = x ++ ".__init__") (h1 : defArgs d.st = xPar [xArg "self" a0, xArg f1 a1, xArg f2 a2]) (h2 : defBody d.st = [xSup tx j p0 p1 p2 p3 p4 p5, xPut f1 q1 q2 q3 q4, xPut f2 r1 r2 r3 r4]) (h3 : defScope d.st = xSc [f1, f2])
    (so : SupOk tx j p0 p1 p2 p3 p4 p5) (n : N2 f1 f2)
    (bd : ∀ cc cda x v v' qual doc pm an ct, bindArgs (PySem.W.ksFn "__init__" qual (xPar [xArg "self" a0, xArg f1 a1, xArg f2 a2]) [xSup tx j p0 p1 p2 p3 p4 p5, xPut f1 q1 q2 q3 q4, xPut f2 r1 r2 r3 r4] (xSc [f1, f2]) .none .none doc pm an (.ref cda) ct cc) ⟨[.ref x, v, v'], []⟩ = pure [(("self" : Str), .ref x), (f1, v), (f2, v')]) :
    Exc2 P K mg x f1 f2 (He.ga K x) :=
  ⟨_, _, _, _, _, _, _, _, _, _, _, _, _, _, _, _, _, _, _, _, _, _, ⟨ckX_cls c nosup top, ckX_fn c (by rw [hd]; rfl) hn hq e h1 h2 h3, so, He.eqO_ok no1, He.eqO_ok no2, n, bd _ _, gC⟩⟩
end
end Pl

end

section
set_option Elab.async false
set_option linter.all false
set_option maxRecDepth 100000
set_option maxHeartbeats 2000000
/-! PlL: rows, entries, layers, tables on the heap; what stays; comprehensions and loops that only add. -/
namespace Pl
open PySem PySem.Spec PyProof.Rows L2 Evl

/-! ### pairs of lists -/
inductive All2 {α β : Type} (R : α → β → Prop) : List α → List β → Prop
  | nil : All2 R [] []
  | cons {a b l m} : R a b → All2 R l m → All2 R (a :: l) (b :: m)
section
variable {α β γ : Type} {R S : α → β → Prop} {l : List α} {m : List β}
theorem All2.len (h : All2 R l m) : l.length = m.length := by
  induction h with
  | nil => rfl
  | cons _ _ ih => rw [List.length_cons, List.length_cons, ih]
theorem All2.imp (h : All2 R l m) (f : ∀ a b, R a b → S a b) : All2 S l m := by
  induction h with
  | nil => exact .nil
  | cons a _ ih => exact .cons (f _ _ a) ih
theorem All2.get (h : All2 R l m) : ∀ {i : Nat} {a : α}, l[i]? = some a → ∃ b, m[i]? = some b ∧ R a b := by
  induction h with
  | nil => intro i a e; simp at e
  | cons r _ ih =>
    intro i a e
    cases i with
    | zero =>
      have e' := Option.some.inj e
      subst e'
      exact ⟨_, rfl, r⟩
    | succ i => exact ih (by simpa using e)
theorem All2.get' (h : All2 R l m) : ∀ {i : Nat} {b : β}, m[i]? = some b → ∃ a, l[i]? = some a ∧ R a b := by
  induction h with
  | nil => intro i a e; simp at e
  | cons r _ ih =>
    intro i a e
    cases i with
    | zero =>
      have e' := Option.some.inj e
      subst e'
      exact ⟨_, rfl, r⟩
    | succ i => exact ih (by simpa using e)
theorem All2.app {l' : List α} {m' : List β} (h : All2 R l m) (h' : All2 R l' m') : All2 R (l ++ l') (m ++ m') := by
  induction h with
  | nil => exact h'
  | cons r _ ih => exact .cons r ih
theorem All2.of_get : ∀ {l : List α} {m : List β}, l.length = m.length → (∀ (i : Nat) a b, l[i]? = some a → m[i]? = some b → R a b) → All2 R l m
  | [], [], _, _ => .nil
  | [], _ :: _, e, _ => by cases e
  | _ :: _, [], e, _ => by cases e
  | a :: l, b :: m, e, h => .cons (h 0 a b rfl rfl) (All2.of_get (by simpa using e) fun i x y h1 h2 => h (i + 1) x y (by simpa using h1) (by simpa using h2))
theorem All2.take (h : All2 R l m) (n : Nat) : All2 R (l.take n) (m.take n) := by
  induction h generalizing n with
  | nil => simp; exact .nil
  | cons r _ ih =>
    cases n with
    | zero => exact .nil
    | succ n => exact .cons r (ih n)
end
/-! ### what stays -/
/-- tuples stay -/
def Tupish (o : HO) : Prop := (∃ xs, o = .tup xs) ∨ ∃ f u, o = .frz f u
def ExN (H H' : Hp) : Prop := ∀ a o, H a = some o → Tupish o → H' a = some o
theorem ExN.refl (H : Hp) : ExN H H := fun _ _ h _ => h
theorem ExN.of {H H' : Hp} (e : Ex H H') : ExN H H' := fun a o h _ => e a o h
theorem ExN.trans {H H1 H2 : Hp} (a : ExN H H1) (b : ExN H1 H2) : ExN H H2 := fun x o h n => b x o (a x o h n) n
theorem ExN.at_ {H : Hp} {D : Addr} {u o : HO} (h : H D = some u) (hn : ¬ Tupish u) : ExN H (upd H D o) := fun a x ha n => by
  rw [upd_ne fun z => ?_]
  · exact ha
  · rw [z, h] at ha
    rw [Option.some.inj ha] at hn
    exact hn n
theorem not_lst {xs : List V} : ¬ Tupish (.lst xs) := fun h => by
  rcases h with ⟨_, h⟩ | ⟨_, _, h⟩ <;> cases h
theorem ExN.list {H : Hp} {D : Addr} {xs ys : List V} (h : H D = some (.lst xs)) : ExN H (upd H D (.lst ys)) := ExN.at_ h not_lst
theorem exn_t {K : Fg} {H H' : Hp} {a : Addr} {xs : List V} (e : ExN H H') (h : SqT K H a xs) : SqT K H' a xs := by
  rcases h with (h | ⟨o, h⟩) | h
  · exact .inl (.inl (e _ _ h (.inl ⟨_, rfl⟩)))
  · exact .inl (.inr ⟨o, e _ _ h (.inr ⟨_, _, rfl⟩)⟩)
  · exact .inr h
theorem ex_slt {H H' : Hp} {a C dx : Addr} {sv : List (Option V)} (e : Ex H H') (h : SlX.Slt H a C dx sv) : SlX.Slt H' a C dx sv := by
  rcases h with ⟨h1, h2⟩ | ⟨h1, h2⟩
  · exact .inl ⟨e _ _ h1, h2⟩
  · exact .inr ⟨e _ _ h1, e _ _ h2⟩
/-- what a store into a fresh instance leaves of the elder heap -/
theorem Ex.slH {H H' : Hp} {a C dx : Addr} {sv : List (Option V)} (e : Ex H H') (h1 : H a = none) (h2 : H dx = none) : Ex H (SlX.slH H' a C dx sv) := fun b o hb => by
  rw [SlX.slH_ne (ne_of_none hb h1) (ne_of_none hb h2)]
  exact e b o hb
theorem Ex.made {H : Hp} {x dx C : Addr} (h1 : H x = none) (h2 : H dx = none) : Ex H (upd (upd H dx (.own x)) x (.ins C dx [])) := fun b o hb => by
  rw [upd_ne (ne_of_none hb h1), upd_ne (ne_of_none hb h2)]
  exact hb
/-! ### the values -/
abbrev Rwv := List Int
structure Ent where
  p : Int
  o : Option Rwv
  n : Option Rwv
abbrev vis (ns : List Int) : List V := ns.map V.int
def VR (K : Fg) (H : Hp) (v : V) (r : Rwv) : Prop := ∃ a, v = .ref a ∧ SqT K H a (vis r)
def VO (K : Fg) (H : Hp) (v : V) : Option Rwv → Prop
  | none => v = .non
  | some r => VR K H v r
def VE (K : Fg) (H : Hp) (v : V) (e : Ent) : Prop := ∃ a x y, v = .ref a ∧ SqT K H a [.int e.p, x, y] ∧ VO K H x e.o ∧ VO K H y e.n
section
variable {K : Fg} {H H' : Hp} {v : V}
theorem VR.ex {v : V} {r : Rwv} (e : ExN H H') (h : VR K H v r) : VR K H' v r := by
  obtain ⟨a, ea, h⟩ := h
  exact ⟨a, ea, exn_t e h⟩
theorem VO.ex {r : Option Rwv} (e : ExN H H') (h : VO K H v r) : VO K H' v r := by
  cases r with
  | none => exact h
  | some r => exact VR.ex e h
theorem VE.ex {r : Ent} (e : ExN H H') (h : VE K H v r) : VE K H' v r := by
  obtain ⟨a, x, y, ea, h, hx, hy⟩ := h
  exact ⟨a, x, y, ea, exn_t e h, VO.ex e hx, VO.ex e hy⟩
theorem vrs_ex {vs : List V} {rs : List Rwv} (e : ExN H H') (h : All2 (VR K H) vs rs) : All2 (VR K H') vs rs := h.imp fun _ _ => VR.ex e
theorem ves_ex {vs : List V} {es : List Ent} (e : ExN H H') (h : All2 (VE K H) vs es) : All2 (VE K H') vs es := h.imp fun _ _ => VE.ex e
/-- None, as the program asks -/
theorem VO.isN {r : Option Rwv} (h : VO K H v r) : decide (v = V.non) = r.isNone := by
  cases r with
  | none =>
    rw [show v = V.non from h]
    simp
  | some r =>
    obtain ⟨a, ea, _⟩ := h
    rw [ea]
    simp
end
/-! ### a comprehension that only adds: its items are told by R, which stays -/
section
variable {K : Fg} {a D : Addr} {xs : List V} {σ : L2.St} {H1 : Hp} {g : TG} {te : TE} {vs : List Nat} {R : Nat → V → Hp → Prop} {Qd : Hp → Prop}
def LcP (H1 : Hp) (D : Addr) (R : Nat → V → Hp → Prop) (i : Nat) (H : Hp) : Prop := Ex H1 H ∧ ∃ ys, H D = some (.lst ys) ∧ ys.length = i ∧ ∀ (k : Nat) y, ys[k]? = some y → R k y H
/-- the turn's end behind such an element -/
theorem lc_all (hx : SqL K H1 a xs) (hz : xs.length < sizeLine) (hD : H1 D = none) (hR : ∀ i y H H', ExN H H' → R i y H → R i y H')
    (hs : ∀ i x H2 (Q : VK), xs[i]? = some x → Ex H1 H2 → (∀ y H3, Ex H2 H3 → R i y H3 → Q y H3) → g x (wipe σ vs) H2 fun σ2 H3 => wipe σ2 vs = wipe σ vs ∧ te σ2 H3 Q)
    (q : ∀ ys H2, Ex H1 H2 → H2 D = some (.lst ys) → ys.length = xs.length → (∀ (i : Nat) y, ys[i]? = some y → R i y H2) → Qd H2) :
    ∃ W : Nat → Nat → Hp → Prop, (∃ m, W 0 m (upd H1 D (.lst []))) ∧ ∀ i m H, W i m H →
      ((Itl K a).stop i H ∧ Qd H) ∨ ((Itl K a).go i H ∧ ∃ Nx : Hp → Prop, (∀ H', Nx H' → ∃ m', m' < m ∧ W (i + 1) m' H') ∧ ∀ x H', (Itl K a).yld i H x H' → g x (wipe σ vs) H' fun σ2 H2 => wipe σ2 vs = wipe σ vs ∧ tYes σ2 H2 fun b H3 =>
        if b = true then te σ2 H3 fun y H4 => ∃ acc, H4 D = some (.lst acc) ∧ acc.length < sizeLine ∧ Nx (upd H4 D (.lst (acc ++ [y]))) else Nx H3) := by
  refine lc_list (xs := xs) (LcP H1 D R) ⟨Ex.new hD, [], upd_same, rfl, fun k y e => by simp at e⟩ (fun i H _ p => ex_l p.1 hx) (fun i x H hi p => ?_) (fun H p => ?_)
  · obtain ⟨e1, ys, hy, hl, hr⟩ := p
    have hlt := (List.getElem?_eq_some_iff.mp hi).1
    have z := hs i x H (fun y H4 => ∃ acc, H4 D = some (.lst acc) ∧ acc.length < sizeLine ∧ LcP H1 D R (i + 1) (upd H4 D (.lst (acc ++ [y])))) hi e1 fun y H3 e2 ry => by
      refine ⟨ys, e2 _ _ hy, by omega, Ex.mut (e1.trans e2) hD, ys ++ [y], upd_same, by rw [List.length_append, hl]; rfl, fun k z hk => ?_⟩
      have en : ExN H3 (upd H3 D (.lst (ys ++ [y]))) := ExN.list (e2 _ _ hy)
      by_cases hk2 : k < ys.length
      · rw [List.getElem?_append_left hk2] at hk
        exact hR _ _ _ _ ((ExN.of e2).trans en) (hr k z hk)
      · have ek : k = ys.length := by
          have := (List.getElem?_eq_some_iff.mp hk).1
          rw [List.length_append] at this
          simp at this
          omega
        subst ek
        rw [List.getElem?_append_right (Nat.le_refl _)] at hk
        have ez : y = z := by simpa using hk
        subst ez
        rw [hl]
        exact hR _ _ _ _ en ry
    exact z
  · obtain ⟨e1, ys, hy, hl, hr⟩ := p
    exact q ys H e1 hy hl hr
/-- the target a name -/
theorem lc_allN {j : Nat} (hx : SqL K H1 a xs) (hz : xs.length < sizeLine) (hD : H1 D = none) (hR : ∀ i y H H', ExN H H' → R i y H → R i y H') (hw : ∀ x, wipe ((wipe σ vs).set j (some x)) vs = wipe σ vs)
    (hs : ∀ i x H2 (Q : VK), xs[i]? = some x → Ex H1 H2 → (∀ y H3, Ex H2 H3 → R i y H3 → Q y H3) → te ((wipe σ vs).set j (some x)) H2 Q)
    (q : ∀ ys H2, Ex H1 H2 → H2 D = some (.lst ys) → ys.length = xs.length → (∀ (i : Nat) y, ys[i]? = some y → R i y H2) → Qd H2) :
    ∃ W : Nat → Nat → Hp → Prop, (∃ m, W 0 m (upd H1 D (.lst []))) ∧ ∀ i m H, W i m H →
      ((Itl K a).stop i H ∧ Qd H) ∨ ((Itl K a).go i H ∧ ∃ Nx : Hp → Prop, (∀ H', Nx H' → ∃ m', m' < m ∧ W (i + 1) m' H') ∧ ∀ x H', (Itl K a).yld i H x H' → gName j x (wipe σ vs) H' fun σ2 H2 => wipe σ2 vs = wipe σ vs ∧ tYes σ2 H2 fun b H3 =>
        if b = true then te σ2 H3 fun y H4 => ∃ acc, H4 D = some (.lst acc) ∧ acc.length < sizeLine ∧ Nx (upd H4 D (.lst (acc ++ [y]))) else Nx H3) :=
  lc_all hx hz hD hR (fun i x H2 Q hi e k => ⟨hw x, hs i x H2 Q hi e k⟩) q
/-- .. the items are functions of the list's: the new list is known -/
theorem lc_mapN {j : Nat} {ys : List V} (hx : SqL K H1 a xs) (hz : xs.length < sizeLine) (hD : H1 D = none) (hl : ys.length = xs.length) (hw : ∀ x, wipe ((wipe σ vs).set j (some x)) vs = wipe σ vs)
    (hs : ∀ (i : Nat) x y H2 (Q : VK), xs[i]? = some x → ys[i]? = some y → Ex H1 H2 → (∀ H3, Ex H2 H3 → Q y H3) → te ((wipe σ vs).set j (some x)) H2 Q)
    (q : ∀ H2, Ex H1 H2 → H2 D = some (.lst ys) → Qd H2) :
    ∃ W : Nat → Nat → Hp → Prop, (∃ m, W 0 m (upd H1 D (.lst []))) ∧ ∀ i m H, W i m H →
      ((Itl K a).stop i H ∧ Qd H) ∨ ((Itl K a).go i H ∧ ∃ Nx : Hp → Prop, (∀ H', Nx H' → ∃ m', m' < m ∧ W (i + 1) m' H') ∧ ∀ x H', (Itl K a).yld i H x H' → gName j x (wipe σ vs) H' fun σ2 H2 => wipe σ2 vs = wipe σ vs ∧ tYes σ2 H2 fun b H3 =>
        if b = true then te σ2 H3 fun y H4 => ∃ acc, H4 D = some (.lst acc) ∧ acc.length < sizeLine ∧ Nx (upd H4 D (.lst (acc ++ [y]))) else Nx H3) :=
  lc_allN (R := fun i y _ => ys[i]? = some y) hx hz hD (fun _ _ _ _ _ h => h) hw (fun i x H2 Q hi e k => by
    have hlt := (List.getElem?_eq_some_iff.mp hi).1
    exact hs i x (ys[i]'(by omega)) H2 Q hi (by simp) e fun H3 e3 => k _ H3 e3 (by simp)) fun zs H2 e hy hl2 hr => by
      have ez : zs = ys := by
        refine List.ext_getElem? fun i => ?_
        by_cases hi : i < zs.length
        · exact (List.getElem?_eq_getElem hi).trans (hr i _ (List.getElem?_eq_getElem hi)).symm
        · rw [List.getElem?_eq_none (by omega), List.getElem?_eq_none (by omega)]
      rw [ez] at hy
      exact q H2 e hy
end
end Pl

end

section
set_option Elab.async false
set_option linter.all false
set_option maxRecDepth 100000
set_option maxHeartbeats 2000000
/-! PlM: from a def of the text to its promise. -/
namespace Pl
open PySem PySem.Spec PyProof.Rows L2 Evl

section
variable {P : Program} {w : World} {K : Fg} {mg : Str → Option Value} {base : Heap} {x qual : Str} {st : Stmt} {N ps ks : List Str} {k : Nat} {sp : Sp} {f C : Addr} {fd : FuncData}
/-- the body's walk -/
def Walked (P : Program) (w : World) (K : Fg) (mg : Str → Option Value) (base : Heap) (k : Nat) (N : List Str) (qual : Str) (st : Stmt) (f : Addr) (sp : Sp) : Prop :=
  ∀ (cdv : Value) (A : Around) (outer : List Env) (s : Shared) (H : Hp) (vs : List V) (Q : VK) (E : XK), Room k (A.deeper (envOfC qual (defScope st) s.heap.objs.size f cdv)) → sp vs H Q E →
    ∃ t, PSs (cxOf (L2.CX P w) P w K mg base N qual (defScope st) f cdv A outer s H E) (defBody st) t ∧ t { nx := fun _ H' => Q .non H', rt := Q } (start N vs) H
def Len (ps : List Str) (sp : Sp) : Prop := ∀ vs H Q E, sp vs H Q E → vs.length = ps.length
theorem tkOf {scope : Scope} {cdv : Value} {A : Around} {outer : List Env} {s : Shared} {H : Hp} {E : XK} : Takes (cxOf (L2.CX P w) P w K mg base N qual scope f cdv A outer s H E) (fun cls d _ H' => E cls d H') := takes_of rfl rfl rfl rfl
theorem poOf {scope : Scope} {cdv : Value} {A : Around} {outer : List Env} {s : Shared} {H : Hp} {E : XK} : PassesOwn (model P w) (cxOf (L2.CX P w) P w K mg base N qual scope f cdv A outer s H E).A (cxOf (L2.CX P w) P w K mg base N qual scope f cdv A outer s H E).env (cxOf (L2.CX P w) P w K mg base N qual scope f cdv A outer s H E).xe :=
  passes_of (X := cxOf (L2.CX P w) P w K mg base N qual scope f cdv A outer s H E) rfl
theorem fna_def (F : FunD K x qual (defArgs st) (defBody st) (defScope st) [] [] f fd) (S : FnScope N ps (defScope st)) (len : Len ps sp)
    (hb : ∀ (kV doc pm : Value) (an : Option Addr) (cdv ct : Value) (us ws : List Value), (us ++ ws).length = ps.length → ws.length = ks.length → bindArgs (PySem.W.fnOf x qual (defArgs st) (defBody st) (defScope st) .none kV doc pm an cdv ct) ⟨us, ks.zip ws⟩ = pure (ps.zip (us ++ ws)))
    (hw : Walked P w K mg base k N qual st f sp) : FnA P w K mg base (k + 1) f ks sp := by
  have G : FnOk P w K mg base (L2.CX P w) (k + 1) f fd ps sp := F.ok S len hw
  refine fna_of G fun s us ws X l1 l2 => ?_
  obtain ⟨oc, od, dV, kV, doc, pm, an, cdv, ct, osl, rfl, lk, hcd, hD, hK⟩ := F.ex
  rcases hD with ⟨_, rfl⟩ | ⟨e, _⟩
  · exact .of_eq (hb kV doc pm an cdv ct us ws l1 l2)
  · exact absurd rfl e
/-- with one default, which is filled in, or is not -/
theorem fna_fill {d : V} (F : FunD K x qual (defArgs st) (defBody st) (defScope st) [d] [] f fd) (S : FnScope N ps (defScope st)) (len : Len ps sp) (n : Nat) (hn : n + 1 = ps.length)
    (hb : ∀ (T : Addr) (kV doc pm : Value) (an : Option Addr) (cdv ct : Value) (us its : List Value), us.length = n → its.length = 1 →
      ∃ k, bindArgs (PySem.W.fnOf x qual (defArgs st) (defBody st) (defScope st) (.ref T) kV doc pm an cdv ct) ⟨us, []⟩ = seqItems? (.ref T) >>= k ∧ k (some its.toArray) = pure (ps.zip (us ++ its.drop 0)))
    (hw : Walked P w K mg base k N qual st f sp) : FnA P w K mg base (k + 1) f [] (fun vs H Q E => sp (vs ++ [d]) H Q E) := by
  have G : FnOk P w K mg base (L2.CX P w) (k + 1) f fd ps sp := F.ok S len hw
  obtain ⟨ds, r, b⟩ := F.binds1 (ps := ps) n 0 (by simp) hn hb
  exact fna_dfl G b r
theorem fna_full {d : V} (F : FunD K x qual (defArgs st) (defBody st) (defScope st) [d] [] f fd) (S : FnScope N ps (defScope st)) (len : Len ps sp)
    (hb : ∀ (T : Addr) (kV doc pm : Value) (an : Option Addr) (cdv ct : Value) (us its : List Value), us.length = ps.length → its.length = 1 →
      ∃ k, bindArgs (PySem.W.fnOf x qual (defArgs st) (defBody st) (defScope st) (.ref T) kV doc pm an cdv ct) ⟨us, []⟩ = seqItems? (.ref T) >>= k ∧ k (some its.toArray) = pure (ps.zip (us ++ its.drop 1)))
    (hw : Walked P w K mg base k N qual st f sp) : FnA P w K mg base (k + 1) f [] sp := by
  have G : FnOk P w K mg base (L2.CX P w) (k + 1) f fd ps sp := F.ok S len hw
  obtain ⟨ds, r, b⟩ := F.binds1 (ps := ps) ps.length 1 (by simp) (by simp) hb
  have e : ds = [] := by
    cases r
    rfl
  rw [e] at b
  exact (fna_dfl G b .nil).imp fun vs H Q E h => by
    show sp (vs ++ []) H Q E
    rw [List.append_nil]
    exact h
/-- the def of the text at the module's name x -/
def IsDef (K : Fg) (mg : Str → Option Value) (x : Str) (st : Stmt) : Prop := mg x = some (.ref (He.ga K x)) ∧ ∃ fd, FunD K x x (defArgs st) (defBody st) (defScope st) [] [] (He.ga K x) fd
/-- the method m of the class named c -/
def IsMet (K : Fg) (c m q : Str) (st : Stmt) : Prop := Meth K (He.ga K c) m (He.ma K (He.ga K c) m) ∧ ∃ fd, FunD K m q (defArgs st) (defBody st) (defScope st) [] [] (He.ma K (He.ga K c) m) fd
/-- its __init__; the defaults dvs -/
def IsInit (K : Fg) (c q : Str) (st : Stmt) (dvs : List V) : Prop := Mk K (He.ga K c) (initAt K c) ∧ ∃ fd, FunD K "__init__" q (defArgs st) (defBody st) (defScope st) dvs [] (initAt K c) fd
def IsProp (K : Fg) (c m q : Str) (st : Stmt) : Prop := PropOf K (He.ga K c) m (He.ma K (He.ga K c) m) ((At.pg c m).ad K) ∧ ∃ fd, FunD K m q (defArgs st) (defBody st) (defScope st) [] [] ((At.pg c m).ad K) fd
def IsSet (K : Fg) (c m q : Str) (st : Stmt) : Prop := SetOf K (He.ga K c) m (He.ma K (He.ga K c) m) ((At.ps c m).ad K) ∧ ∃ fd, FunD K m q (defArgs st) (defBody st) (defScope st) [] [] ((At.ps c m).ad K) fd
def IsCm (K : Fg) (c m q : Str) (st : Stmt) : Prop := ClX.CRead K (He.ga K c) (.type "type") ∧ ClX.CMet K (He.ga K c) (.type "type") m (He.ma K (He.ga K c) m) ((At.cm c m).ad K) ∧ ∃ fd, FunD K m q (defArgs st) (defBody st) (defScope st) [] [] ((At.cm c m).ad K) fd
/-- an own exception without __init__ -/
def IsExc0 (K : Fg) (x : Str) (B : List Str) : Prop := PySem.W.excIn K (He.ga K x) (B.map (fun y => Value.ref (He.ga K y)) ++ He.veBase) "ValueError.__new__" = true ∧ PySem.W.keepIn K (.ref (He.ga K x)) = true ∧ PySem.W.subIn K (.ref (He.ga K x)) (.type "BaseException") = some true ∧
    PySem.W.typeIn K (.ref (He.ga K x)) = some (.type "type")
theorem IsDef.df (h : IsDef K mg x st) (H : FnA P w K mg base k (He.ga K x) ks sp) : Df P w K mg base k x ks sp := by
  obtain ⟨g, fd, F⟩ := h
  exact ⟨_, g, F.kp, H⟩
end
/-! ### more checks -/
def ckTupA (p : Fg → Addr) (vs : List He.Dv) (K : Fg) : Bool := match K.lookup (p K) with
  | some ⟨.type c, _, .seq its _, _⟩ => decide (c = "tuple") && (decide (its.size ≤ sizeLine) && He.relAll (vs.map (He.Dv.v K)) its.toList)
  | _ => false
theorem ckTupA_ok {K : Fg} {p : Fg → Addr} {vs : List He.Dv} (h : ckTupA p vs K = true) (H : Hp) : SqT K H (p K) (vs.map (He.Dv.v K)) := by
  unfold ckTupA at h
  cases q : K.lookup (p K) with
  | none =>
    rw [q] at h
    cases h
  | some o =>
    obtain ⟨oc, od, dt, osl⟩ := o
    rw [q] at h
    cases oc with
    | type c =>
      cases dt with
      | seq its n =>
        obtain ⟨h1, h2⟩ := He.ba (show (decide (c = "tuple") && (decide (its.size ≤ sizeLine) && He.relAll (vs.map (He.Dv.v K)) its.toList)) = true from h)
        obtain ⟨h3, h4⟩ := He.ba h2
        exact .inr ⟨_, its, n, q, congrArg Value.type (of_decide_eq_true h1), rfl, of_decide_eq_true h3, He.relAll_ok h4⟩
      | _ => cases h
    | _ => cases dt <;> cases h
/-- the one default of a class's __init__, an object -/
def dfAd (x : Str) (K : Fg) : Addr := He.dflAt (x, some "__init__") 0 K
theorem iterC_of {K : Fg} {C f : Addr} (h : Meth K C "__iter__" f) : IterC K C f := ⟨h.at_, h.fn⟩
theorem lenC_of {K : Fg} {C f : Addr} (h : Meth K C "__len__" f) : LenC K C f := ⟨h.at_, h.fn⟩
end Pl

end

section
set_option Elab.async false
set_option linter.all false
set_option maxRecDepth 100000
set_option maxHeartbeats 2000000
/-! PlN: the same with the arguments' shapes said. -/
namespace Pl
open PySem PySem.Spec PyProof.Rows L2 Evl
section
variable {P : Program} {w : World} {K : Fg} {mg : Str → Option Value} {base : Heap} {x qual : Str} {st : Stmt} {N ps : List Str} {k : Nat} {sp : Sp} {f C : Addr} {fd : FuncData}
theorem fna_d0 (F : FunD K x qual (defArgs st) (defBody st) (defScope st) [] [] f fd) (S : FnScope N ps (defScope st)) (len : Len ps sp)
    (hb : ∀ (kV doc pm : Value) (an : Option Addr) (cdv ct : Value) (us : List Value), us.length = ps.length → bindArgs (PySem.W.fnOf x qual (defArgs st) (defBody st) (defScope st) .none kV doc pm an cdv ct) ⟨us, []⟩ = pure (ps.zip us))
    (hw : Walked P w K mg base k N qual st f sp) : FnA P w K mg base (k + 1) f [] sp :=
  fna_def (ks := []) F S len (fun kV doc pm an cdv ct us ws l1 l2 => by
    cases ws with
    | nil =>
      rw [List.append_nil] at l1 ⊢
      exact hb kV doc pm an cdv ct us l1
    | cons a b => cases l2) hw
theorem fna_d1 {q : Str} {n : Nat} (F : FunD K x qual (defArgs st) (defBody st) (defScope st) [] [] f fd) (S : FnScope N ps (defScope st)) (len : Len ps sp) (hn : ps.length = n + 1)
    (hb : ∀ (kV doc pm : Value) (an : Option Addr) (cdv ct : Value) (us : List Value) (z : Value), us.length = n → bindArgs (PySem.W.fnOf x qual (defArgs st) (defBody st) (defScope st) .none kV doc pm an cdv ct) ⟨us, [(q, z)]⟩ = pure (ps.zip (us ++ [z])))
    (hw : Walked P w K mg base k N qual st f sp) : FnA P w K mg base (k + 1) f [q] sp :=
  fna_def (ks := [q]) F S len (fun kV doc pm an cdv ct us ws l1 l2 => by
    match ws, l2 with
    | [z], _ => exact hb kV doc pm an cdv ct us z (by rw [List.length_append, hn] at l1; simpa using l1)) hw
end
/-! ### the kinds of things -/
theorem tyI {K : Fg} {H : Hp} {i : Int} : TyX K H (.int i) (.type "int") := .base (.int _)
theorem tyT {K : Fg} {H : Hp} {a : Addr} {xs : List V} (h : SqT K H a xs) : TyX K H (.ref a) (.type "tuple") := by
  rcases h with (h | ⟨o, h⟩) | ⟨o, its, n, h1, h2, h3, h4, h5⟩
  · exact .base (.tup h)
  · exact .fTuple h
  · exact .kTuple h1 h2
theorem kit_ii {K : Fg} : PySem.W.kitOne K (.type "int") (.type "int") = some true := kit_ty (by decide +kernel)
theorem kit_ib {K : Fg} : PySem.W.kitOne K (.type "int") (.type "bool") = some false := kit_ty (by decide +kernel)
theorem kit_tt {K : Fg} : PySem.W.kitOne K (.type "tuple") (.type "tuple") = some true := kit_ty (by decide +kernel)
end Pl

end

section
set_option Elab.async false
set_option linter.all false
set_option maxRecDepth 100000
set_option maxHeartbeats 2000000
/-! PlO: plain mathematics of rows and entries; places in lists. -/
namespace Pl
open PySem PySem.Spec PyProof.Rows L2 Evl

theorem atI_int {α : Type} {xs : List α} {i : Int} {v : α} (h0 : 0 ≤ i) (h : xs[i.toNat]? = some v) : atI xs i = some v := by
  have e : i = (i.toNat : Int) := (Int.toNat_of_nonneg h0).symm
  rw [e]
  exact atI_nat h
theorem vis_get {ns : List Int} {i : Nat} {x : Int} (h : ns[i]? = some x) : (vis ns)[i]? = some (.int x) := by
  rw [List.getElem?_map, h]
  rfl
theorem vis_len (ns : List Int) : (vis ns).length = ns.length := List.length_map ..
/-- below k, and from k on -/
def Cut (ns : List Int) (b : Int) (k : Nat) : Prop := k ≤ ns.length ∧ ∀ (i : Nat) x, ns[i]? = some x → (i < k ↔ x < b)
theorem pw_get {ns : List Int} (h : ns.Pairwise (· < ·)) {i j : Nat} {x y : Int} (hi : ns[i]? = some x) (hj : ns[j]? = some y) (l : i < j) : x < y := by
  obtain ⟨a, e⟩ := List.getElem?_eq_some_iff.mp hi
  obtain ⟨b, e2⟩ := List.getElem?_eq_some_iff.mp hj
  rw [← e, ← e2]
  exact List.pairwise_iff_getElem.mp h i j a b l
/-! ### rows, entries -/
def Rwv.key (r : Rwv) : Int := r.headD 0
def Ent.key (e : Ent) : Int := match e.o with
  | some r => Rwv.key r
  | none => match e.n with
    | some r => Rwv.key r
    | none => 0
def b2 (b : Bool) : Int := if b then 1 else 0
def Ent.grow (e : Ent) : Int := b2 e.n.isSome - b2 e.o.isSome
/-- a row of the width w -/
def RowOk (w : Nat) (r : Rwv) : Prop := r.length = w
def ORowOk (w : Nat) : Option Rwv → Prop
  | none => True
  | some r => RowOk w r
/-- an entry of the width w -/
structure EntOk (w : Nat) (e : Ent) : Prop where
  p : 0 ≤ e.p
  o : ORowOk w e.o
  n : ORowOk w e.n
  k : match e.o, e.n with
    | none, none => False
    | some a, some b => Rwv.key a = Rwv.key b ∧ a ≠ b
    | _, _ => True
/-- the gap between two entries that follow each other -/
def gapE (e f : Ent) : Int := f.p - e.p - b2 e.o.isSome
def InOrd (e f : Ent) : Prop := 0 ≤ gapE e f ∧ gapE e f < f.key - e.key
instance (e f : Ent) : Decidable (InOrd e f) := inferInstanceAs (Decidable (_ ∧ _))
/-- each two neighbours -/
def Chain {α : Type} (R : α → α → Prop) : List α → Prop
  | [] => True
  | [_] => True
  | a :: b :: l => R a b ∧ Chain R (b :: l)
theorem Chain.get {α : Type} {R : α → α → Prop} : ∀ {l : List α}, Chain R l → ∀ {i : Nat} {a b : α}, l[i]? = some a → l[i + 1]? = some b → R a b
  | [], _, i, a, b, h, _ => by simp at h
  | [x], _, i, a, b, _, h => by simp at h
  | x :: y :: l, c, 0, a, b, h, h2 => by
    have e := Option.some.inj h
    have e2 := Option.some.inj h2
    subst e e2
    exact c.1
  | x :: y :: l, c, i + 1, a, b, h, h2 => Chain.get (l := y :: l) c.2 (i := i) (by simpa using h) (by simpa using h2)
/-- the entries of a layer -/
structure EntsOk (w : Nat) (es : List Ent) : Prop where
  all : ∀ e ∈ es, EntOk w e
  ord : Chain InOrd es
structure RowsOk (w : Nat) (rs : List Rwv) : Prop where
  all : ∀ r ∈ rs, RowOk w r
  ord : (rs.map Rwv.key).Pairwise (· < ·)
theorem InOrd.lt {e f : Ent} (h : InOrd e f) : e.key < f.key := by
  have := h.1
  have := h.2
  omega
theorem chain_keys : ∀ {es : List Ent}, Chain InOrd es → (es.map Ent.key).Pairwise (· < ·)
  | [], _ => .nil
  | [x], _ => by simp
  | x :: y :: l, c => by
    have ih := chain_keys (es := y :: l) c.2
    have h1 := c.1.lt
    rw [List.map_cons, List.pairwise_cons]
    refine ⟨fun z hz => ?_, ih⟩
    rw [List.map_cons, List.mem_cons] at hz
    rcases hz with e | hz
    · rw [e]
      exact h1
    · rw [List.map_cons, List.pairwise_cons] at ih
      have := ih.1 z hz
      omega
theorem row_head {w : Nat} {r : Rwv} (h : RowOk w r) (hw : 1 ≤ w) : r[0]? = some r.key := by
  cases r with
  | nil =>
    have : (0 : Nat) = w := h
    omega
  | cons a b => rfl
end Pl

end

section
set_option Elab.async false
set_option linter.all false
set_option maxRecDepth 100000
set_option maxHeartbeats 2000000
/-! PlP: the same over a tuple. -/
namespace Pl
open PySem PySem.Spec PyProof.Rows L2 Evl
/-! ### a comprehension that only adds: its items are told by R, which stays -/
section
variable {K : Fg} {a D : Addr} {xs : List V} {σ : L2.St} {H1 : Hp} {g : TG} {te : TE} {vs : List Nat} {R : Nat → V → Hp → Prop} {Qd : Hp → Prop}
/-- the turn's end behind such an element -/
theorem lc_allT (hx : SqT K H1 a xs) (hz : xs.length < sizeLine) (hD : H1 D = none) (hR : ∀ i y H H', ExN H H' → R i y H → R i y H')
    (hs : ∀ i x H2 (Q : VK), xs[i]? = some x → Ex H1 H2 → (∀ y H3, Ex H2 H3 → R i y H3 → Q y H3) → g x (wipe σ vs) H2 fun σ2 H3 => wipe σ2 vs = wipe σ vs ∧ te σ2 H3 Q)
    (q : ∀ ys H2, Ex H1 H2 → H2 D = some (.lst ys) → ys.length = xs.length → (∀ (i : Nat) y, ys[i]? = some y → R i y H2) → Qd H2) :
    ∃ W : Nat → Nat → Hp → Prop, (∃ m, W 0 m (upd H1 D (.lst []))) ∧ ∀ i m H, W i m H →
      ((Itt K a).stop i H ∧ Qd H) ∨ ((Itt K a).go i H ∧ ∃ Nx : Hp → Prop, (∀ H', Nx H' → ∃ m', m' < m ∧ W (i + 1) m' H') ∧ ∀ x H', (Itt K a).yld i H x H' → g x (wipe σ vs) H' fun σ2 H2 => wipe σ2 vs = wipe σ vs ∧ tYes σ2 H2 fun b H3 =>
        if b = true then te σ2 H3 fun y H4 => ∃ acc, H4 D = some (.lst acc) ∧ acc.length < sizeLine ∧ Nx (upd H4 D (.lst (acc ++ [y]))) else Nx H3) := by
  refine lc_tup (xs := xs) (LcP H1 D R) ⟨Ex.new hD, [], upd_same, rfl, fun k y e => by simp at e⟩ (fun i H _ p => ex_t p.1 hx) (fun i x H hi p => ?_) (fun H p => ?_)
  · obtain ⟨e1, ys, hy, hl, hr⟩ := p
    have hlt := (List.getElem?_eq_some_iff.mp hi).1
    have z := hs i x H (fun y H4 => ∃ acc, H4 D = some (.lst acc) ∧ acc.length < sizeLine ∧ LcP H1 D R (i + 1) (upd H4 D (.lst (acc ++ [y])))) hi e1 fun y H3 e2 ry => by
      refine ⟨ys, e2 _ _ hy, by omega, Ex.mut (e1.trans e2) hD, ys ++ [y], upd_same, by rw [List.length_append, hl]; rfl, fun k z hk => ?_⟩
      have en : ExN H3 (upd H3 D (.lst (ys ++ [y]))) := ExN.list (e2 _ _ hy)
      by_cases hk2 : k < ys.length
      · rw [List.getElem?_append_left hk2] at hk
        exact hR _ _ _ _ ((ExN.of e2).trans en) (hr k z hk)
      · have ek : k = ys.length := by
          have := (List.getElem?_eq_some_iff.mp hk).1
          rw [List.length_append] at this
          simp at this
          omega
        subst ek
        rw [List.getElem?_append_right (Nat.le_refl _)] at hk
        have ez : y = z := by simpa using hk
        subst ez
        rw [hl]
        exact hR _ _ _ _ en ry
    exact z
  · obtain ⟨e1, ys, hy, hl, hr⟩ := p
    exact q ys H e1 hy hl hr
/-- the target a name -/
theorem lc_allNT {j : Nat} (hx : SqT K H1 a xs) (hz : xs.length < sizeLine) (hD : H1 D = none) (hR : ∀ i y H H', ExN H H' → R i y H → R i y H') (hw : ∀ x, wipe ((wipe σ vs).set j (some x)) vs = wipe σ vs)
    (hs : ∀ i x H2 (Q : VK), xs[i]? = some x → Ex H1 H2 → (∀ y H3, Ex H2 H3 → R i y H3 → Q y H3) → te ((wipe σ vs).set j (some x)) H2 Q)
    (q : ∀ ys H2, Ex H1 H2 → H2 D = some (.lst ys) → ys.length = xs.length → (∀ (i : Nat) y, ys[i]? = some y → R i y H2) → Qd H2) :
    ∃ W : Nat → Nat → Hp → Prop, (∃ m, W 0 m (upd H1 D (.lst []))) ∧ ∀ i m H, W i m H →
      ((Itt K a).stop i H ∧ Qd H) ∨ ((Itt K a).go i H ∧ ∃ Nx : Hp → Prop, (∀ H', Nx H' → ∃ m', m' < m ∧ W (i + 1) m' H') ∧ ∀ x H', (Itt K a).yld i H x H' → gName j x (wipe σ vs) H' fun σ2 H2 => wipe σ2 vs = wipe σ vs ∧ tYes σ2 H2 fun b H3 =>
        if b = true then te σ2 H3 fun y H4 => ∃ acc, H4 D = some (.lst acc) ∧ acc.length < sizeLine ∧ Nx (upd H4 D (.lst (acc ++ [y]))) else Nx H3) :=
  lc_allT hx hz hD hR (fun i x H2 Q hi e k => ⟨hw x, hs i x H2 Q hi e k⟩) q
/-- .. the items are functions of the list's: the new list is known -/
theorem lc_mapNT {j : Nat} {ys : List V} (hx : SqT K H1 a xs) (hz : xs.length < sizeLine) (hD : H1 D = none) (hl : ys.length = xs.length) (hw : ∀ x, wipe ((wipe σ vs).set j (some x)) vs = wipe σ vs)
    (hs : ∀ (i : Nat) x y H2 (Q : VK), xs[i]? = some x → ys[i]? = some y → Ex H1 H2 → (∀ H3, Ex H2 H3 → Q y H3) → te ((wipe σ vs).set j (some x)) H2 Q)
    (q : ∀ H2, Ex H1 H2 → H2 D = some (.lst ys) → Qd H2) :
    ∃ W : Nat → Nat → Hp → Prop, (∃ m, W 0 m (upd H1 D (.lst []))) ∧ ∀ i m H, W i m H →
      ((Itt K a).stop i H ∧ Qd H) ∨ ((Itt K a).go i H ∧ ∃ Nx : Hp → Prop, (∀ H', Nx H' → ∃ m', m' < m ∧ W (i + 1) m' H') ∧ ∀ x H', (Itt K a).yld i H x H' → gName j x (wipe σ vs) H' fun σ2 H2 => wipe σ2 vs = wipe σ vs ∧ tYes σ2 H2 fun b H3 =>
        if b = true then te σ2 H3 fun y H4 => ∃ acc, H4 D = some (.lst acc) ∧ acc.length < sizeLine ∧ Nx (upd H4 D (.lst (acc ++ [y]))) else Nx H3) :=
  lc_allNT (R := fun i y _ => ys[i]? = some y) hx hz hD (fun _ _ _ _ _ h => h) hw (fun i x H2 Q hi e k => by
    have hlt := (List.getElem?_eq_some_iff.mp hi).1
    exact hs i x (ys[i]'(by omega)) H2 Q hi (by simp) e fun H3 e3 => k _ H3 e3 (by simp)) fun zs H2 e hy hl2 hr => by
      have ez : zs = ys := by
        refine List.ext_getElem? fun i => ?_
        by_cases hi : i < zs.length
        · exact (List.getElem?_eq_getElem hi).trans (hr i _ (List.getElem?_eq_getElem hi)).symm
        · rw [List.getElem?_eq_none (by omega), List.getElem?_eq_none (by omega)]
      rw [ez] at hy
      exact q H2 e hy
end
end Pl

end

section
set_option Elab.async false
set_option linter.all false
set_option maxRecDepth 100000
set_option maxHeartbeats 2000000
/-! PlQ: rows as data. -/
namespace Pl
open PySem PySem.Spec PyProof.Rows L2 Evl

def rowD (r : Rwv) : PyData := .tuple (r.map .int)
def orowD : Option Rwv → PyData
  | none => .none
  | some r => rowD r
theorem ints_eqv : ∀ r s : Rwv, PyData.eqvAll (r.map .int) (s.map .int) = decide (r = s)
  | [], [] => rfl
  | [], _ :: _ => rfl
  | _ :: _, [] => rfl
  | a :: r, b :: s => by
    have ih := ints_eqv r s
    show (a == b && PyData.eqvAll (r.map .int) (s.map .int)) = decide (a :: r = b :: s)
    rw [ih]
    by_cases h1 : a = b
    · subst h1
      by_cases h2 : r = s
      · subst h2
        simp
      · simp [h2]
    · simp [h1]
theorem orowD_eqv (a b : Option Rwv) : PyData.eqv (orowD a) (orowD b) = decide (a = b) := by
  cases a with
  | none =>
    cases b with
    | none => rfl
    | some b => rfl
  | some a =>
    cases b with
    | none => rfl
    | some b =>
      show PyData.eqvAll (a.map .int) (b.map .int) = _
      rw [ints_eqv]
      by_cases h : a = b <;> simp [h]
theorem ints_depth : ∀ r : Rwv, PyData.depthAll (r.map .int) ≤ 1
  | [] => by simp [PyData.depthAll]
  | a :: r => by
    have ih := ints_depth r
    simp only [List.map_cons, PyData.depthAll, PyData.depth]
    omega
theorem ints_lay : ∀ r : Rwv, PyData.canLayAll0 (r.map .int) = true
  | [] => rfl
  | a :: r => by
    have ih := ints_lay r
    simp only [List.map_cons, PyData.canLayAll0, PyData.canLay0, Bool.true_and]
    exact ih
theorem rowD_depth (r : Rwv) : (rowD r).depth ≤ 2 := by
  have h := ints_depth r
  simp only [rowD, PyData.depth]
  omega
theorem orowD_depth (r : Option Rwv) : (orowD r).depth ≤ 2 := by
  cases r with
  | none => simp [orowD, PyData.depth]
  | some r => exact rowD_depth r
theorem rowD_lay (r : Rwv) : (rowD r).canLay0 = true := by
  simp only [rowD, PyData.canLay0]
  exact ints_lay r
theorem orowD_lay (r : Option Rwv) : (orowD r).canLay0 = true := by
  cases r with
  | none => rfl
  | some r => exact rowD_lay r
theorem orowD_shaped (r : Option Rwv) : SeqAt.shaped (orowD r) = true := by
  have h := orowD_depth r
  show ((orowD r).canLay0 && decide ((orowD r).depth ≤ 64)) = true
  rw [Bool.and_eq_true]
  exact ⟨orowD_lay r, decide_eq_true (by omega)⟩
section
variable {K : Fg} {H : Hp} {v : V}
theorem dp_ints : ∀ r : Rwv, DpAll K H (vis r) (r.map .int)
  | [] => .nil
  | a :: r => .cons (.int a) (dp_ints r)
theorem VR.dp {r : Rwv} (h : VR K H v r) : Dp K H v (rowD r) := by
  obtain ⟨a, e, h⟩ := h
  subst e
  exact .tup h (dp_ints r)
theorem VO.dp {r : Option Rwv} (h : VO K H v r) : Dp K H v (orowD r) := by
  cases r with
  | none =>
    have e : v = .non := h
    subst e
    exact .non
  | some r => exact VR.dp h
/-- ==, != of rows, None among them -/
theorem rEq_rows {x y : V} {a b : Option Rwv} {Q : VK} (ha : VO K H x a) (hb : VO K H y b) (q : Q (.bl (decide (a = b))) H) : rEqD K x y H Q :=
  ⟨_, _, ha.dp, hb.dp, orowD_shaped a, orowD_shaped b, by rw [orowD_eqv]; exact q⟩
theorem rNe_rows {x y : V} {a b : Option Rwv} {Q : VK} (ha : VO K H x a) (hb : VO K H y b) (q : Q (.bl (!decide (a = b))) H) : rNeD K x y H Q :=
  ⟨_, _, ha.dp, hb.dp, orowD_shaped a, orowD_shaped b, by rw [orowD_eqv]; exact q⟩
end
end Pl

end

section
set_option Elab.async false
set_option linter.all false
set_option maxRecDepth 100000
set_option maxHeartbeats 2000000
/-! PlR: small words for the readings. -/
namespace Pl
open PySem PySem.Spec PyProof.Rows L2 Evl

theorem take_snoc {α : Type} {xs : List α} {i : Nat} {x : α} (h : xs[i]? = some x) : xs.take (i + 1) = xs.take i ++ [x] := by
  rw [List.take_add_one, h]
  rfl
theorem atI0 {α : Type} {xs : List α} {v : α} (h : xs[0]? = some v) : atI xs 0 = some v := atI_int (i := 0) (by decide) h
theorem atI1 {α : Type} {xs : List α} {v : α} (h : xs[1]? = some v) : atI xs 1 = some v := atI_int (i := 1) (by decide) h
theorem atI2 {α : Type} {xs : List α} {v : α} (h : xs[2]? = some v) : atI xs 2 = some v := atI_int (i := 2) (by decide) h
/-- the last of those taken -/
theorem atI_take {α : Type} {xs : List α} {i : Nat} {v : α} (h : xs[i]? = some v) : atI (xs.take (i + 1)) (-1) = some v := by
  rw [take_snoc h]
  exact atI_last _ _
theorem sz2 : 2 ≤ sizeLine := by rw [sizeLine_eq]; decide
theorem sz3 : 3 ≤ sizeLine := by rw [sizeLine_eq]; decide
theorem sz4 : 4 ≤ sizeLine := by rw [sizeLine_eq]; decide
theorem sz1 : 1 ≤ sizeLine := by rw [sizeLine_eq]; decide
theorem szK {n : Nat} (h : n ≤ 100000) : n < sizeLine := by rw [sizeLine_eq]; omega
/-- a test that has its answer -/
theorem ifT {c : Bool} {A B : Prop} (hc : c = true) (h : A) : if c = true then A else B := by
  rw [if_pos hc]
  exact h
theorem ifF {c : Bool} {A B : Prop} (hc : c = false) (h : B) : if c = true then A else B := by
  rw [hc, if_neg Bool.false_ne_true]
  exact h
theorem VE.at0 {K : Fg} {H : Hp} {v : V} {e : Ent} (h : VE K H v e) : ∃ a x y, v = .ref a ∧ SqT K H a [.int e.p, x, y] ∧ VO K H x e.o ∧ VO K H y e.n := h
theorem b2_not (b : Bool) : (if (!b) = true then (1 : Int) else 0) = b2 (!b) := by cases b <;> rfl
theorem row0 {w : Nat} {r : Rwv} (h : RowOk w r) (hw : 1 ≤ w) : (vis r)[0]? = some (.int r.key) := vis_get (row_head h hw)
end Pl

end

section
set_option Elab.async false
set_option linter.all false
set_option maxRecDepth 100000
set_option maxHeartbeats 2000000
/-! PlS: dict and set comprehensions over a list, keyed by numbers; sorted keys. -/
namespace Pl
open PySem PySem.Spec PyProof.Rows L2 Evl

theorem dc_list {K : PySem.W.Frag} {a : Addr} {xs : List V} {g : TG} {tt : TT} {tk tv : TE} {vs : List Nat} {σ : L2.St} {H1 : Hp} {D : Addr} {Qd : Hp → Prop} (Pv : Nat → Hp → Prop) (h0 : Pv 0 (upd H1 D (.dK []))) (hl : ∀ i H, i ≤ xs.length → Pv i H → SqL K H a xs)
    (hs : ∀ i x H, xs[i]? = some x → Pv i H → g x (wipe σ vs) H fun σ2 H2 => wipe σ2 vs = wipe σ vs ∧ tt σ2 H2 fun b H3 =>
      if b = true then tk σ2 H3 fun y H4 => tv σ2 H4 fun z H5 => ∃ kvs k, y = kV k ∧ H5 D = some (.dK kvs) ∧ kvs.length < sizeLine ∧ Pv (i + 1) (upd H5 D (.dK (putK kvs k z))) else Pv (i + 1) H3) (hd : ∀ H, Pv xs.length H → Qd H) :
    ∃ W : Nat → Nat → Hp → Prop, (∃ m, W 0 m (upd H1 D (.dK []))) ∧ ∀ i m H, W i m H →
      ((Itl K a).stop i H ∧ Qd H) ∨ ((Itl K a).go i H ∧ ∃ Nx : Hp → Prop, (∀ H', Nx H' → ∃ m', m' < m ∧ W (i + 1) m' H') ∧ ∀ x H', (Itl K a).yld i H x H' → g x (wipe σ vs) H' fun σ2 H2 => wipe σ2 vs = wipe σ vs ∧ tt σ2 H2 fun b H3 =>
        if b = true then tk σ2 H3 fun y H4 => tv σ2 H4 fun z H5 => ∃ kvs k, y = kV k ∧ H5 D = some (.dK kvs) ∧ kvs.length < sizeLine ∧ Nx (upd H5 D (.dK (putK kvs k z))) else Nx H3) := by
  refine ⟨fun i m H => m = xs.length - i ∧ i ≤ xs.length ∧ Pv i H, ⟨xs.length, by simp, Nat.zero_le _, h0⟩, ?_⟩
  rintro i m H ⟨rfl, hi, p⟩
  have q := hl i H hi p
  by_cases hlt : i < xs.length
  · refine .inr ⟨⟨xs, xs[i], q, by simp [hlt]⟩, Pv (i + 1), fun H' p' => ⟨xs.length - (i + 1), by omega, rfl, hlt, p'⟩, fun x H' y => ?_⟩
    obtain ⟨e, y⟩ := y
    subst e
    exact hs i x _ (y xs q) p
  · have e : i = xs.length := by omega
    subst e
    exact .inl ⟨⟨xs, q, Nat.le_refl _⟩, hd H p⟩
/-- numbers to values, in order -/
def dkOf (ks : List Int) (xs : List V) : List (Key × V) := (ks.zip xs).map fun p => (Sum.inl p.1, p.2)
theorem dk_snoc {ks : List Int} {xs : List V} {i : Nat} {k : Int} {x : V} (hk : ks[i]? = some k) (hx : xs[i]? = some x) : dkOf (ks.take (i + 1)) (xs.take (i + 1)) = dkOf (ks.take i) (xs.take i) ++ [(Sum.inl k, x)] := by
  unfold dkOf
  rw [take_snoc hk, take_snoc hx, List.zip_append, List.map_append]
  · rfl
  · have h1 := (List.getElem?_eq_some_iff.mp hk).1
    have h2 := (List.getElem?_eq_some_iff.mp hx).1
    rw [List.length_take, List.length_take]
    omega
theorem dk_none : ∀ {ks : List Int} {xs : List V} {k : Int}, k ∉ ks → valV (dkOf ks xs) (Sum.inl k) = none
  | [], _, k, _ => rfl
  | _ :: _, [], k, _ => rfl
  | a :: ks, x :: xs, k, h => by
    show valV ((Sum.inl a, x) :: dkOf ks xs) (Sum.inl k) = none
    rw [valV_neg (fun z => h (by injection z with z; rw [z]; exact List.mem_cons_self))]
    exact dk_none fun z => h (List.mem_cons_of_mem _ z)
theorem dk_some : ∀ {ks : List Int} {xs : List V} {i : Nat} {k : Int} {x : V}, ks.Pairwise (· < ·) → ks[i]? = some k → xs[i]? = some x → valV (dkOf ks xs) (Sum.inl k) = some x
  | [], _, i, k, x, _, h, _ => by simp at h
  | _ :: _, [], i, k, x, _, _, h => by simp at h
  | a :: ks, y :: xs, 0, k, x, _, h, h2 => by
    have e := Option.some.inj h
    have e2 := Option.some.inj h2
    subst e e2
    exact valV_pos (p := (Sum.inl a, y)) rfl
  | a :: ks, y :: xs, i + 1, k, x, hp, h, h2 => by
    have hk : ks[i]? = some k := by simpa using h
    have hlt : a < k := (List.pairwise_cons.mp hp).1 k (List.mem_of_getElem? hk)
    show valV ((Sum.inl a, y) :: dkOf ks xs) (Sum.inl k) = some x
    rw [valV_neg (fun z => by injection z with z; omega)]
    exact dk_some (List.pairwise_cons.mp hp).2 hk (by simpa using h2)
section
variable {K : Fg} {a D : Addr} {xs : List V} {ks : List Int} {σ : L2.St} {H1 : Hp} {tk tv : TE} {vs : List Nat} {Qd : Hp → Prop} {j : Nat}
/-- {key: x for x in xs}, the keys rise -/
theorem dc_keys (hx : SqL K H1 a xs) (hz : xs.length < sizeLine) (hD : H1 D = none) (hl : ks.length = xs.length) (hp : ks.Pairwise (· < ·)) (hw : ∀ x, wipe ((wipe σ vs).set j (some x)) vs = wipe σ vs)
    (hs : ∀ (i : Nat) x k H2 (Q : VK), xs[i]? = some x → ks[i]? = some k → Ex H1 H2 → (∀ H3, Ex H2 H3 → Q (.int k) H3) → tk ((wipe σ vs).set j (some x)) H2 Q)
    (hv : ∀ (i : Nat) x H2 (Q : VK), xs[i]? = some x → Ex H1 H2 → Q x H2 → tv ((wipe σ vs).set j (some x)) H2 Q) (q : ∀ H2, Ex H1 H2 → H2 D = some (.dK (dkOf ks xs)) → Qd H2) :
    ∃ W : Nat → Nat → Hp → Prop, (∃ m, W 0 m (upd H1 D (.dK []))) ∧ ∀ i m H, W i m H →
      ((Itl K a).stop i H ∧ Qd H) ∨ ((Itl K a).go i H ∧ ∃ Nx : Hp → Prop, (∀ H', Nx H' → ∃ m', m' < m ∧ W (i + 1) m' H') ∧ ∀ x H', (Itl K a).yld i H x H' → gName j x (wipe σ vs) H' fun σ2 H2 => wipe σ2 vs = wipe σ vs ∧ tYes σ2 H2 fun b H3 =>
        if b = true then tk σ2 H3 fun y H4 => tv σ2 H4 fun z H5 => ∃ kvs k, y = kV k ∧ H5 D = some (.dK kvs) ∧ kvs.length < sizeLine ∧ Nx (upd H5 D (.dK (putK kvs k z))) else Nx H3) := by
  refine dc_list (xs := xs) (fun i H => Ex H1 H ∧ H D = some (.dK (dkOf (ks.take i) (xs.take i)))) ⟨Ex.new hD, by rw [upd_same]; rfl⟩ (fun i H _ p => ex_l p.1 hx) (fun i x H hi p => ?_) (fun H p => ?_)
  · have hlt := (List.getElem?_eq_some_iff.mp hi).1
    have hk : ks[i]? = some (ks[i]'(by omega)) := List.getElem?_eq_getElem (by omega)
    refine ⟨hw x, hs i x _ H _ hi hk p.1 fun H3 e3 => hv i x H3 _ hi (p.1.trans e3) ⟨_, Sum.inl (ks[i]'(by omega)), rfl, e3 _ _ p.2, ?_, Ex.mut (p.1.trans e3) hD, ?_⟩⟩
    · unfold dkOf
      rw [List.length_map, List.length_zip, List.length_take, List.length_take]
      omega
    · rw [upd_same, dk_snoc hk hi]
      have hn : (ks[i]'(by omega)) ∉ ks.take i := fun z => by
        obtain ⟨m, hm, em⟩ := List.mem_iff_getElem.mp z
        rw [List.length_take] at hm
        rw [List.getElem_take] at em
        have := List.pairwise_iff_getElem.mp hp m i (by omega) (by omega) (by omega)
        omega
      have ha : ((dkOf (ks.take i) (xs.take i)).any fun kv => decide (kv.1 = Sum.inl (ks[i]'(by omega)))) = false := by
        rw [valV_any, dk_none hn]
        rfl
      unfold putK
      rw [if_neg (by rw [ha]; decide)]
  · rw [List.take_length, ← hl, List.take_length] at p
    exact q H p.1 p.2
/-- {key for x in xs} -/
theorem sc_keys {w : World} {te : TE} (hx : SqL K H1 a xs) (hz : xs.length < 1000) (hD : H1 D = none) (hl : ks.length = xs.length) (hw : ∀ x, wipe ((wipe σ vs).set j (some x)) vs = wipe σ vs)
    (hs : ∀ (i : Nat) x k H2 (Q : VK), xs[i]? = some x → ks[i]? = some k → Ex H1 H2 → (∀ H3, Ex H2 H3 → Q (.int k) H3) → te ((wipe σ vs).set j (some x)) H2 Q)
    (q : ∀ H2 S n, Ex H1 H2 → H2 D = some (SetO w D S n) → (∀ k : Int, S k = true ↔ k ∈ ks) → n ≤ ks.length → Qd H2) :
    ∃ W : Nat → Nat → Hp → Prop, (∃ m, W 0 m (upd H1 D (SetO w D (fun _ => false) 0))) ∧
      ∀ i m H, W i m H → ((Itl K a).stop i H ∧ Qd H) ∨ ((Itl K a).go i H ∧ ∃ N : Hp → Prop, (∀ H', N H' → ∃ m', m' < m ∧ W (i + 1) m' H') ∧ ∀ x H', (Itl K a).yld i H x H' → turnI w (gName j) tYes te vs σ D N x H') := by
  let Pv : Nat → Hp → Prop := fun i H => Ex H1 H ∧ ∃ S n, H D = some (SetO w D S n) ∧ (∀ k : Int, S k = true ↔ k ∈ ks.take i) ∧ n ≤ i
  refine ⟨fun i m H => m = xs.length - i ∧ i ≤ xs.length ∧ Pv i H, ⟨xs.length, by simp, Nat.zero_le _, Ex.new hD, _, 0, upd_same, fun k => by simp, Nat.le_refl _⟩, ?_⟩
  rintro i m H ⟨rfl, hi, p⟩
  have hq := ex_l p.1 hx
  by_cases hlt : i < xs.length
  · refine .inr ⟨⟨xs, xs[i], hq, by simp [hlt]⟩, Pv (i + 1), fun H' p' => ⟨xs.length - (i + 1), by omega, rfl, hlt, p'⟩, fun x H' y => ?_⟩
    obtain ⟨e, y⟩ := y
    subst e
    have hxi := y xs hq
    have hk : ks[i]? = some (ks[i]'(by omega)) := List.getElem?_eq_getElem (by omega)
    obtain ⟨e1, S, n, hS, hm, hn⟩ := p
    refine ⟨hw x, hs i x _ _ _ hxi hk e1 fun H3 e3 => ⟨_, S, n, rfl, e3 _ _ hS, ?_, Ex.mut (e1.trans e3) hD, _, _, upd_same, fun k => ?_, ?_⟩⟩
    · have : (2000 : Nat) ≤ scanBound := by decide
      omega
    · rw [Bool.or_eq_true, decide_eq_true_iff, hm k, take_snoc hk, List.mem_append, List.mem_singleton]
    · split <;> omega
  · have e : i = xs.length := by omega
    subst e
    obtain ⟨e1, S, n, hS, hm, hn⟩ := p
    exact .inl ⟨⟨xs, hq, Nat.le_refl _⟩, q H S n e1 hS (fun k => by rw [hm k, ← hl, List.take_length]) (by omega)⟩
end
/-! ### sorted, without repetition -/
def insK (k : Int) : List Int → List Int
  | [] => [k]
  | a :: l => if k < a then k :: a :: l else if k = a then a :: l else a :: insK k l
theorem mem_insK {k x : Int} : ∀ {l : List Int}, x ∈ insK k l ↔ x = k ∨ x ∈ l
  | [] => by simp [insK]
  | a :: l => by
    have ih := mem_insK (k := k) (x := x) (l := l)
    unfold insK
    split
    · simp
    · split
      · rename_i h
        subst h
        simp
      · rw [List.mem_cons, ih, List.mem_cons]
        constructor
        · rintro (h | h | h)
          · exact .inr (.inl h)
          · exact .inl h
          · exact .inr (.inr h)
        · rintro (h | h | h)
          · exact .inr (.inl h)
          · exact .inl h
          · exact .inr (.inr h)
theorem pw_insK {k : Int} : ∀ {l : List Int}, l.Pairwise (· < ·) → (insK k l).Pairwise (· < ·)
  | [], _ => by simp [insK]
  | a :: l, h => by
    obtain ⟨h1, h2⟩ := List.pairwise_cons.mp h
    have ih := pw_insK (k := k) h2
    unfold insK
    split
    · rename_i h3
      refine List.pairwise_cons.mpr ⟨fun x hx => ?_, h⟩
      rcases List.mem_cons.mp hx with e | e
      · rw [e]; exact h3
      · have := h1 x e
        omega
    · split
      · exact h
      · rename_i h3 h4
        refine List.pairwise_cons.mpr ⟨fun x hx => ?_, ih⟩
        rcases mem_insK.mp hx with e | e
        · rw [e]; omega
        · exact h1 x e
def keysU (l : List Int) : List Int := l.foldr insK []
theorem mem_keysU {x : Int} : ∀ {l : List Int}, x ∈ keysU l ↔ x ∈ l
  | [] => by simp [keysU]
  | a :: l => by
    show x ∈ insK a (keysU l) ↔ _
    rw [mem_insK, mem_keysU, List.mem_cons]
theorem pw_keysU : ∀ {l : List Int}, (keysU l).Pairwise (· < ·)
  | [] => .nil
  | a :: l => pw_insK (pw_keysU (l := l))
/-- two rising lists of the same numbers -/
theorem rise_eq : ∀ {l m : List Int}, l.Pairwise (· < ·) → m.Pairwise (· < ·) → (∀ x, x ∈ l ↔ x ∈ m) → l = m
  | [], [], _, _, _ => rfl
  | [], b :: m, _, _, h => absurd ((h b).mpr List.mem_cons_self) (by simp)
  | a :: l, [], _, _, h => absurd ((h a).mp List.mem_cons_self) (by simp)
  | a :: l, b :: m, h1, h2, h => by
    obtain ⟨p1, p2⟩ := List.pairwise_cons.mp h1
    obtain ⟨q1, q2⟩ := List.pairwise_cons.mp h2
    have e : a = b := by
      have ha := (h a).mp List.mem_cons_self
      have hb := (h b).mpr List.mem_cons_self
      rcases List.mem_cons.mp ha with e | ha
      · exact e
      · rcases List.mem_cons.mp hb with e | hb
        · exact e.symm
        · have := q1 a ha
          have := p1 b hb
          omega
    subst e
    rw [rise_eq p2 q2 fun x => ?_]
    constructor
    · intro hx
      rcases List.mem_cons.mp ((h x).mp (List.mem_cons_of_mem _ hx)) with e | z
      · have := p1 x hx
        omega
      · exact z
    · intro hx
      rcases List.mem_cons.mp ((h x).mpr (List.mem_cons_of_mem _ hx)) with e | z
      · have := q1 x hx
        omega
      · exact z
theorem keysU_rise {l m : List Int} (h1 : m.Pairwise (· < ·)) (h2 : ∀ x, x ∈ m ↔ x ∈ l) : m = keysU l := rise_eq h1 pw_keysU fun x => by rw [h2, mem_keysU]
end Pl

end

section
set_option Elab.async false
set_option linter.all false
set_option maxRecDepth 100000
set_option maxHeartbeats 2000000
/-! PlT: layers turned and linked, in plain Lean. -/
namespace Pl
open PySem PySem.Spec PyProof.Rows L2 Evl

def turnG (g : Int) : List Ent → List Ent
  | [] => []
  | e :: r => ⟨e.p + g, e.n, e.o⟩ :: turnG (g + e.grow) r
def turnedM (es : List Ent) : List Ent := turnG 0 es
def gsum (es : List Ent) (i : Nat) : Int := ((es.take i).map Ent.grow).sum
theorem gsum_succ {es : List Ent} {i : Nat} {e : Ent} (h : es[i]? = some e) : gsum es (i + 1) = gsum es i + e.grow := by
  unfold gsum
  rw [take_snoc h, List.map_append, List.sum_append]
  simp
theorem turnG_len : ∀ {g : Int} {es : List Ent}, (turnG g es).length = es.length
  | _, [] => rfl
  | g, e :: r => by
    show (turnG _ r).length + 1 = r.length + 1
    rw [turnG_len]
theorem turnG_get : ∀ {es : List Ent} {g : Int} {i : Nat} {e : Ent}, es[i]? = some e → (turnG g es)[i]? = some ⟨e.p + (g + gsum es i), e.n, e.o⟩
  | [], _, i, e, h => by simp at h
  | a :: r, g, 0, e, h => by
    have ea := Option.some.inj h
    subst ea
    show some _ = some _
    unfold gsum
    simp
  | a :: r, g, i + 1, e, h => by
    have ih := turnG_get (es := r) (g := g + a.grow) (i := i) (e := e) (by simpa using h)
    show (turnG (g + a.grow) r)[i]? = _
    rw [ih]
    unfold gsum
    rw [List.take_succ_cons, List.map_cons, List.sum_cons]
    congr 2
    omega
/-! ### links -/
structure Lnk where
  p : Int
  a : Option Rwv
  b : Option Rwv
  c : Option Rwv
def VL (K : Fg) (H : Hp) (v : V) (L : Lnk) : Prop := ∃ t x y z, v = .ref t ∧ SqT K H t [.int L.p, x, y, z] ∧ VO K H x L.a ∧ VO K H y L.b ∧ VO K H z L.c
theorem VL.ex {K : Fg} {H H' : Hp} {v : V} {L : Lnk} (e : ExN H H') (h : VL K H v L) : VL K H' v L := by
  obtain ⟨t, x, y, z, ev, h, h1, h2, h3⟩ := h
  exact ⟨t, x, y, z, ev, exn_t e h, h1.ex e, h2.ex e, h3.ex e⟩
/-- an entry or none -/
def VOE (K : Fg) (H : Hp) (v : V) : Option Ent → Prop
  | none => v = .non
  | some e => VE K H v e
theorem VOE.isN {K : Fg} {H : Hp} {v : V} {r : Option Ent} (h : VOE K H v r) : decide (v = V.non) = r.isNone := by
  cases r with
  | none =>
    rw [show v = V.non from h]
    simp
  | some r =>
    obtain ⟨a, x, y, ea, _⟩ := h
    rw [ea]
    simp
theorem VOE.ex {K : Fg} {H H' : Hp} {v : V} {r : Option Ent} (e : ExN H H') (h : VOE K H v r) : VOE K H' v r := by
  cases r with
  | none => exact h
  | some r => exact VE.ex e h
def linkM : Option Ent → Option Ent → Int → Option Lnk
  | none, none, _ => none
  | some e, none, _ => some ⟨e.p, e.o, e.n, e.n⟩
  | none, some f, g => some ⟨f.p - g, f.o, f.o, f.n⟩
  | some e, some f, g => if e.n ≠ f.o ∨ e.p + g ≠ f.p then none else some ⟨e.p, e.o, f.o, f.n⟩
def findE (es : List Ent) (k : Int) : Option Ent := es.find? fun e => decide (e.key = k)
def gapL (P L : Lnk) : Int := L.p - P.p - b2 P.a.isSome
def gapBad : Option (Int × Lnk) → Int → Lnk → Bool
  | none, _, _ => false
  | some (l, P), k, L => !(decide (0 ≤ gapL P L) && decide (gapL P L < k - l))
def growO : Option Ent → Int
  | none => 0
  | some e => e.grow
def linksG (A B : Int → Option Ent) : List Int → Int → Option (Int × Lnk) → Option (List Lnk)
  | [], _, _ => some []
  | k :: ks, g, prev => match linkM (A k) (B k) g with
    | none => none
    | some L => match gapBad prev k L with
      | true => none
      | false => (linksG A B ks (g + growO (A k)) (some (k, L))).map (L :: ·)
def keysOf (es fs : List Ent) : List Int := keysU ((es ++ fs).map Ent.key)
def linksM (es fs : List Ent) : Option (List Lnk) := linksG (findE es) (findE fs) (keysOf es fs) 0 none
theorem findE_some {es : List Ent} (hp : (es.map Ent.key).Pairwise (· < ·)) {i : Nat} {e : Ent} (h : es[i]? = some e) : findE es e.key = some e := by
  unfold findE
  induction es generalizing i with
  | nil => simp at h
  | cons a r ih =>
    rw [List.map_cons, List.pairwise_cons] at hp
    cases i with
    | zero =>
      have ea := Option.some.inj h
      subst ea
      rw [List.find?_cons, decide_eq_true rfl]
    | succ i =>
      have h' : r[i]? = some e := by simpa using h
      have hlt := hp.1 e.key (List.mem_map.mpr ⟨e, List.mem_of_getElem? h', rfl⟩)
      rw [List.find?_cons, decide_eq_false (by omega)]
      exact ih hp.2 h'
theorem findE_none {es : List Ent} {k : Int} (h : k ∉ es.map Ent.key) : findE es k = none := by
  unfold findE
  rw [List.find?_eq_none]
  intro e he
  simp only [decide_eq_true_eq]
  exact fun z => h (List.mem_map.mpr ⟨e, he, z⟩)
theorem keyO_eq (es : List Ent) : ∀ k, (k ∈ es.map Ent.key ↔ (findE es k).isSome = true) := fun k => by
  unfold findE
  rw [List.find?_isSome]
  constructor
  · intro h
    obtain ⟨e, he, ek⟩ := List.mem_map.mp h
    exact ⟨e, he, decide_eq_true ek⟩
  · rintro ⟨e, he, ek⟩
    exact List.mem_map.mpr ⟨e, he, of_decide_eq_true ek⟩
/-- enough for an entry's key -/
structure KeyOk (w : Nat) (e : Ent) : Prop where
  o : ORowOk w e.o
  n : ORowOk w e.n
  k : e.o = none → e.n = none → False
theorem EntOk.key {w : Nat} {e : Ent} (h : EntOk w e) : KeyOk w e := ⟨h.o, h.n, fun h1 h2 => by
  have k := h.k
  rw [h1, h2] at k
  exact k⟩
theorem turnG_mem : ∀ {es : List Ent} {g : Int} {f : Ent}, f ∈ turnG g es → ∃ e ∈ es, f.o = e.n ∧ f.n = e.o
  | [], _, f, h => by simp [turnG] at h
  | a :: r, g, f, h => by
    rcases List.mem_cons.mp (show f ∈ (⟨a.p + g, a.n, a.o⟩ : Ent) :: turnG (g + a.grow) r from h) with h | h
    · exact ⟨a, List.mem_cons_self, by rw [h], by rw [h]⟩
    · obtain ⟨e, he, h1, h2⟩ := turnG_mem h
      exact ⟨e, List.mem_cons_of_mem _ he, h1, h2⟩
/-- the key is the same on both sides -/
theorem EntOk.swap {w : Nat} {e : Ent} (h : EntOk w e) (p : Int) : Ent.key ⟨p, e.n, e.o⟩ = e.key := by
  have k := h.k
  unfold Ent.key
  cases ho : e.o with
  | none => cases hn : e.n <;> rfl
  | some a =>
    cases hn : e.n with
    | none => rfl
    | some b =>
      rw [ho, hn] at k
      exact k.1.symm
theorem turnG_keys {w : Nat} : ∀ {es : List Ent} {g : Int}, (∀ e ∈ es, EntOk w e) → (turnG g es).map Ent.key = es.map Ent.key
  | [], _, _ => rfl
  | a :: r, g, h => by
    show Ent.key ⟨a.p + g, a.n, a.o⟩ :: (turnG (g + a.grow) r).map Ent.key = a.key :: r.map Ent.key
    rw [(h a List.mem_cons_self).swap, turnG_keys fun e he => h e (List.mem_cons_of_mem _ he)]
theorem turnG_key {w : Nat} {es : List Ent} {g : Int} (h : ∀ e ∈ es, EntOk w e) : ∀ f ∈ turnG g es, KeyOk w f := fun f hf => by
  obtain ⟨e, he, h1, h2⟩ := turnG_mem hf
  have q := (h e he).key
  exact ⟨by rw [h1]; exact q.n, by rw [h2]; exact q.o, fun z1 z2 => q.k (by rw [← h2]; exact z2) (by rw [← h1]; exact z1)⟩
/-! ### but the list at D all stays -/
def ExB (D : Addr) (H H' : Hp) : Prop := ∀ b o, b ≠ D → H b = some o → H' b = some o
theorem ExB.refl (D : Addr) (H : Hp) : ExB D H H := fun _ _ _ h => h
theorem ExB.ex {D : Addr} {H H1 H2 : Hp} (a : ExB D H H1) (e : Ex H1 H2) : ExB D H H2 := fun b o n h => e b o (a b o n h)
theorem ExB.upd {D : Addr} {H H1 : Hp} {o : HO} (a : ExB D H H1) : ExB D H (upd H1 D o) := fun b x n h => by
  rw [upd_ne n]
  exact a b x n h
theorem exB_t {K : Fg} {D : Addr} {H H' : Hp} {a : Addr} {xs ys : List V} (e : ExB D H H') (hD : H D = some (.lst ys)) (h : SqT K H a xs) : SqT K H' a xs := by
  rcases h with (h | ⟨o, h⟩) | h
  · exact .inl (.inl (e _ _ (fun z => by rw [z, hD] at h; cases h) h))
  · exact .inl (.inr ⟨o, e _ _ (fun z => by rw [z, hD] at h; cases h) h⟩)
  · exact .inr h
theorem ExB.exN {D : Addr} {H H' : Hp} {ys : List V} (e : ExB D H H') (hD : H D = some (.lst ys)) : ExN H H' := fun a o h n => e a o (fun z => by rw [z, hD] at h; rw [← Option.some.inj h] at n; exact not_lst n) h
/-- what a dict of entries says at a key -/
theorem get_voe {K : Fg} {H : Hp} {us : List V} {es : List Ent} (hp : (es.map Ent.key).Pairwise (· < ·)) (hv : All2 (VE K H) us es) (k : Int) :
    VOE K H ((valV (dkOf (es.map Ent.key) us) (Sum.inl k)).getD .non) (findE es k) ∧ (valV (dkOf (es.map Ent.key) us) (Sum.inl k)).isSome = (findE es k).isSome := by
  by_cases hk : k ∈ es.map Ent.key
  · obtain ⟨e, he, ek⟩ := List.mem_map.mp hk
    obtain ⟨i, hi, ei⟩ := List.mem_iff_getElem.mp he
    have h1 : es[i]? = some e := by rw [List.getElem?_eq_getElem hi, ei]
    obtain ⟨v, hv1, hve⟩ := hv.get' h1
    have h2 : (es.map Ent.key)[i]? = some k := by rw [List.getElem?_map, h1, ← ek]; rfl
    rw [dk_some hp h2 hv1, ← ek, findE_some hp h1]
    exact ⟨hve, rfl⟩
  · rw [dk_none hk, findE_none hk]
    exact ⟨rfl, rfl⟩
end Pl

end

section
set_option Elab.async false
set_option linter.all false
set_option maxRecDepth 100000
set_option maxHeartbeats 2000000
/-! PlU: name = {key: value for ..}. -/
namespace Pl
open PySem PySem.Spec PyProof.Rows L2 Evl
section
variable {X : Cx}
theorem sw_dict {kx vx : Expr} {gs : List Comprehension} {scope : Scope} {pos py : Pos} {y : Str} {l : Nat} {env : Env} (hk : env.scope.kind = .function) (hy : env.scope.names.lookup y = some .local) (hl : (py.line == pos.line) = true)
    (ha : (scope.names.any fun (n, k) => n == y && (k == .local || k == .cell)) = false) : swapsWith (.DictComp kx vx gs scope pos) (some (.Name y py)) l env = pure true := by
  have k1 : env.kindOf y = some .local := hy
  have k2 : env.blockKind = .function := by unfold Env.blockKind; rw [hk]; rfl
  unfold swapsWith
  simp only [k2, k1, ha, Expr.pos, hl]
  rfl
theorem ps_setDc {i : Nat} {y : Str} {py : Pos} {kx vx tg iter : Expr} {ifs : List Expr} {scope : Scope} {own : List (Str × Nat)} {pos spos : Pos} {wi : TI} {g : TG} {tt : TT} {tk tv : TE} (hc : X.calm = true) (hN : X.N.Nodup) (hy : X.N[i]? = some y) (hyl : X.env.scope.names.lookup y = some .local)
    (hsw : swapsWith (.DictComp kx vx [⟨tg, iter, ifs, 0⟩] scope pos) (some (.Name y py)) spos.line X.env = pure true) (hi : PI X tg iter wi) (ok : BlkOk X.N X.env.scope scope own)
    (hg : ∀ (s : Shared) (H : Hp) (C : Addr) (cl : List (Str × Addr)) (fp : List Addr), PG (X.blk s H scope (compEnvC scope cl C X.env) fp) tg g) (ht : ∀ (s : Shared) (H : Hp) (C : Addr) (cl : List (Str × Addr)) (fp : List Addr), PTs (X.blk s H scope (compEnvC scope cl C X.env) fp) ifs tt)
    (hk : ∀ (s : Shared) (H : Hp) (C : Addr) (cl : List (Str × Addr)) (fp : List Addr), PE (X.blk s H scope (compEnvC scope cl C X.env) fp) kx tk)
    (he : ∀ (s : Shared) (H : Hp) (C : Addr) (cl : List (Str × Addr)) (fp : List Addr), PE (X.blk s H scope (compEnvC scope cl C X.env) fp) vx tv) (hs : ∀ x, foldedSetIterable iter X.env x = pure x := by intro _; rfl) :
    PS X (.Assign [.Name y py] (.DictComp kx vx [⟨tg, iter, ifs, 0⟩] scope pos) spos) (tAsg (tDc wi g tt tk tv (own.map (·.2))) (gName i)) := by
  refine ⟨fun pins s σ H D I h => ?_⟩
  rw [exec_Assign_Name_used _ _ _ _ hsw]
  refine wpAny_bind (wpAny_standAt (wpAny_bind ?_))
  show wpAny _ X.A (do let _ ← comprehension (.DictComp kx vx [⟨tg, iter, ifs, 0⟩] scope pos) scope X.env (firstIterPos [⟨tg, iter, ifs, 0⟩] pos) newDict false (eval iter X.env) (some (assign (.Name y py) X.env))) _ _ s
  have h : tDc wi g tt tk tv (own.map (·.2)) σ H (fun x H1 => gName i x σ H1 D.nx) := h
  refine wpAny_bind (thn (dc_core (Qf := fun _ s' => SP X pins D .next s') hc hN I hi ok hg ht hk he hs h fun L C s' m H' I' q hn f => ?_) fun _ s' hq => wpAny_pure (wpAny_pure hq))
  show wpAny _ _ (assign (.Name y py) X.env (.ref L)) _ _ _
  refine wpAny_assign_Name (store_ok2 (v := V.ref L) I' hN hy (.inl hyl) rfl (fun s2 I2 ⟨a, sb, ha⟩ => ?_) (.inr hyl))
  obtain ⟨f0, f1, f2, f3, f4, f5⟩ := f
  have haC : C ≠ a := by
    rcases ha with z | z
    · rw [z]; exact f1
    · exact fun e => f4 y a z e.symm
  refine ⟨m, hn.sameBut sb haC, fun h3 sb3 => ?_⟩
  exact ⟨_, H', I2.turned (t' := s2.toks) (fun b o hb e => (sb3.2 b hb).trans e) f0 f1 f3 f4 f5, q⟩
end
end Pl

end

section
set_option Elab.async false
set_option linter.all false
set_option maxRecDepth 100000
set_option maxHeartbeats 4000000
/-! PlV: try with several except clauses, some of them with a name. -/
namespace Pl
open PySem PySem.Spec PyProof.Rows L2
/-- a clause: its class, the slot of its name, its suite -/
abbrev Hd : Type := Value × Option Nat × (Addr → Value → Option Addr → TS)
def wAny (K : PySem.W.Frag) (Wout : WX) (D : Ends) : List Hd → WX
  | [] => Wout
  | (c, none, ts) :: r => fun cls d σ H => ∃ b, PySem.W.exmOne K cls c = some b ∧ (b = true → ∀ a, H a = none → ts a cls d D σ H) ∧ (b = false → wAny K Wout D r cls d σ H)
  | (c, some i, ts) :: r => fun cls d σ H => ∃ b, PySem.W.exmOne K cls c = some b ∧
    (b = true → ∀ a, H a = none → ts a cls d { nx := fun σ' H' => D.nx (σ'.set i none) H', rt := D.rt, bk := fun σ' H' => D.bk (σ'.set i none) H', ct := fun σ' H' => D.ct (σ'.set i none) H' } (σ.set i (some (.ref a))) H) ∧ (b = false → wAny K Wout D r cls d σ H)
inductive HdsA (X : Cx) : List ExceptHandler → List Hd → Prop
  | nil : HdsA X [] []
  | cons {x : Str} {c : Value} {ts : Addr → Value → Option Addr → TS} {b₀ : Stmt} {suite : List Stmt} {np pos' : Pos} {hds : List ExceptHandler} {l : List Hd} (hc : Names X x c)
      (hsu : ∀ (a : Addr) (oe : Obj) (cls : Value) (d : Option Addr) (pn : List (Addr × Obj)), Zc cls d oe → (∃ vs, oe.data = .fields vs) → PSs (X.suite a ((a, oe) :: pn)) (b₀ :: suite) (ts a cls d)) (r : HdsA X hds l) :
      HdsA X (.ExceptHandler (some (.Name x np)) none (b₀ :: suite) pos' :: hds) ((c, none, ts) :: l)
  | as_ {x : Str} {c : Value} {ts : Addr → Value → Option Addr → TS} {b₀ : Stmt} {suite : List Stmt} {np pos' : Pos} {hds : List ExceptHandler} {l : List Hd} {n : Str} {i : Nat} (hi : X.N[i]? = some n) (hln : X.env.kindOf n = some .local) (hc : Names X x c)
      (hsu : ∀ (a : Addr) (oe : Obj) (cls : Value) (d : Option Addr) (pn : List (Addr × Obj)), Zc cls d oe → (∃ vs, oe.data = .fields vs) → PSs (X.suite a ((a, oe) :: pn)) (b₀ :: suite) (ts a cls d)) (r : HdsA X hds l) :
      HdsA X (.ExceptHandler (some (.Name x np)) (some n) (b₀ :: suite) pos' :: hds) ((c, some i, ts) :: l)
section
variable {X : Cx} {body : List Stmt} {h₀ : ExceptHandler} {hds : List ExceptHandler} {l : List Hd} {pos : Pos} {tb : WX → TS} {Wout : WX}
theorem ps_tryA (hs : X.stack = X.env :: X.outer) (hf : X.env.frame = some X.env.locals) (hN : X.N.Nodup) (tk : Takes X Wout)
    (hb : ∀ (W : WX) (pn : List (Addr × Obj)) (xe : Value → Shared → Prop), Takes (X.tr pn xe) W → PassesOwn (model X.prog X.w) X.A X.env xe → PSs (X.tr pn xe) body (tb W))
    (hh : HdsA X (h₀ :: hds) l) : PS X (.Try body (h₀ :: hds) [] [] pos) (fun D σ H => tb (wAny X.K Wout D l) D σ H) := by
  refine ⟨fun pins s σ H D I h => ?_⟩
  have ok := I.ok
  have hfr : X.A.frames = some (X.env :: X.outer) := by rw [ok.frames, hs]
  refine wpAny_Try_except ?_
  refine wpAny_mono ((hb (wAny X.K Wout D l) (X.pn ++ pins) (fun e s₁ => wpAny (model X.prog X.w) X.A (noteFrame e X.env) (fun _ s₂ => wpAny (model X.prog X.w) X.A (setFlight e none) (fun _ s₃ =>
    wpAny (model X.prog X.w) X.A (handleBy e X.env (h₀ :: hds)) (SP X pins D) X.xe s₃) X.xe s₂) X.xe s₁) (fun u s' xx => ?_) PassesOwn.looking).run [] s σ H D (I.toTry _) h) (fun f s1 hsp => ?_) (fun e s1 he => he)
  · -- the catch
    obtain ⟨a, B, sI, pins', σ', H', cls, d, rfl, J', nb, up, sky, na, os, ag, w⟩ := xx
    have J : Inv X pins σ' H' sI := J'.ofTry ok
    have sky' : Sky B (X.env :: X.outer) a (Zc cls d) X.env.locals s'.heap := by rw [← hs]; exact sky
    show wpAny (model X.prog X.w) X.A (noteFrame (.ref a) X.env) _ _ _
    refine Sky.land Zc.steady hfr hf sky' fun h3 fl3 up3 => ?_
    have J3 : Inv X pins σ' H' { s' with heap := h3 } := J.landed nb fl3.1 (up.trans up3) os ag
    obtain ⟨oe3, vs3, he3, hz3, hd3⟩ := fl3.there
    have notFr : ∀ {h : Heap} {o : Obj} {vs : Array Value}, h.FunFrames B (X.env :: X.outer) → h.get? a = some o → o.data = .fields vs → a ∉ frs (X.env :: X.outer) := fun {h o vs} ff e dd hm => by
      obtain ⟨_, o', e', hnf⟩ := ff.mem hm
      rw [e] at e'; cases e'
      exact hnf _ dd
    have nfr := notFr fl3.2.2.1 he3 hd3
    have nL : a ≠ X.env.locals := fun z => nfr (List.mem_filterMap.mpr ⟨X.env, List.mem_cons_self, by rw [hf, z]⟩)
    have nF : a ∉ X.fs := fun hm => by
      obtain ⟨e, he, q⟩ := List.mem_filterMap.mp hm
      exact nfr (List.mem_filterMap.mpr ⟨e, List.mem_cons_of_mem _ he, q⟩)
    have S3 := J3.suite he3 hd3 na nL nF
    have go : ∀ {hds' : List ExceptHandler} {l' : List Hd}, HdsA X hds' l' → wAny X.K Wout D l' cls d σ' H' →
        wpAny (model X.prog X.w) X.A (handleBy (.ref a) X.env hds') (SP X pins D) X.xe { s' with heap := h3 } := by
      intro hds' l' hk
      induction hk with
      | nil =>
        intro w
        refine wpAny_handleBy_nil ?_
        obtain ⟨k1, k2, k3, oe, vs, T, oT, ts', he, hz, hd, h1, hr⟩ := id fl3
        unfold PySem.passOn
        refine wpAny_bind (wpAny_field he hd h1 ?_)
        rw [if_neg (show ¬ ((Value.ref T == Value.none) = true) from by simp)]
        have fin : wpAny (model X.prog X.w) X.A (setFlight (.ref a) X.env.frame) (fun _ s4 => wpAny (model X.prog X.w) X.A (throw (.ref a) : Sem Flow) (SP X pins D) X.xe s4) X.xe { s' with heap := h3 } := by
          rw [hf]
          refine HandSPX.setFlight_upZ fl3 fun h4 hh4 up4 => wpAny_throw (tk _ _ ?_)
          exact ⟨a, B, sI, pins, σ', H', cls, d, rfl, J, nb, (up.trans up3).trans up4, .inr (.inr (by rw [hs]; exact hh4)), na, os, ag, w⟩
        first
          | exact wpAny_bind (wpAny_pure (wpAny_bind fin))
          | exact wpAny_bind fin
      | @cons x c ts b₀ suite np pos' hds2 l2 hc hsu r ih =>
        intro w
        obtain ⟨b, hb1, hyes, hno⟩ := w
        refine wpAny_handleBy_cons (codeAny_handlers_test ?_) (by intro q; cases q)
        have LT : PySem.W.Looks (model X.prog X.w) h3 (typeOf (.ref a)) cls := fun A Q E s k q => wpAny_typeOf_ref (k _ _ he3) (by rw [hz3.1]; exact q)
        have LM := PySem.W.exm_one (M := model X.prog X.w) (J3.kIn) LT hb1
        have test : ∀ {Q : Value → Shared → Prop} {E : Value → Shared → Prop}, Q c { s' with heap := h3 } → wpAny (model X.prog X.w) (X.A.mark (some (.ref a))) (eval (.Name x np) X.env) Q E { s' with heap := h3 } := fun {Q E} q => by
          obtain ⟨hg, hdbg, hm | ⟨hm, hv, hnn⟩⟩ := hc
          · exact ld_glob (X := X.suite a ((a, oe3) :: (X.pn ++ pins))) S3 hg hm q hdbg
          · exact ld_blt (X := X.suite a ((a, oe3) :: (X.pn ++ pins))) S3 hg hm hv q hnn hdbg
        refine test (LM.here ?_)
        cases b with
        | true =>
          refine codeAny_handlers_suite ?_
          refine HandSPX.lands_againZ fl3 fun h4 fl4 up4 => ?_
          have J4 : Inv X pins σ' H' { s' with heap := h4 } := J.landed nb fl4.1 ((up.trans up3).trans up4) os ag
          obtain ⟨oe4, vs4, he4, hz4, hd4⟩ := fl4.there
          have S4 := J4.suite he4 hd4 na nL nF
          refine wpAny_mono ((hsu a oe4 cls d (X.pn ++ pins) hz4 ⟨_, hd4⟩).run [] _ _ H' _ S4 (hyes rfl a na)) (fun f s6 hsp => ?_) (fun _ _ z => False.elim z)
          cases f with
          | next =>
            obtain ⟨σ6, H6, S6, q6⟩ := hsp
            exact ⟨_, _, S6.unsuite ok, q6⟩
          | brk =>
            obtain ⟨σ6, H6, S6, q6⟩ := hsp
            exact ⟨_, _, S6.unsuite ok, q6⟩
          | cont =>
            obtain ⟨σ6, H6, S6, q6⟩ := hsp
            exact ⟨_, _, S6.unsuite ok, q6⟩
          | ret u =>
            obtain ⟨v6, σ6, H6, S6, r6, q6⟩ := hsp
            exact ⟨_, _, _, S6.unsuite ok, r6, q6⟩
        | false =>
          show wpAny _ X.A (handleBy (.ref a) X.env hds2) _ _ _
          exact ih (hno rfl)
      | @as_ x c ts b₀ suite np pos' hds2 l2 n i hi hln hc hsu r ih =>
        intro w
        obtain ⟨b, hb1, hyes, hno⟩ := w
        refine wpAny_handleBy_cons (codeAny_handlers_test ?_) (by intro q; cases q)
        have LT : PySem.W.Looks (model X.prog X.w) h3 (typeOf (.ref a)) cls := fun A Q E s k q => wpAny_typeOf_ref (k _ _ he3) (by rw [hz3.1]; exact q)
        have LM := PySem.W.exm_one (M := model X.prog X.w) (J3.kIn) LT hb1
        have test : ∀ {Q : Value → Shared → Prop} {E : Value → Shared → Prop}, Q c { s' with heap := h3 } → wpAny (model X.prog X.w) (X.A.mark (some (.ref a))) (eval (.Name x np) X.env) Q E { s' with heap := h3 } := fun {Q E} q => by
          obtain ⟨hg, hdbg, hm | ⟨hm, hv, hnn⟩⟩ := hc
          · exact ld_glob (X := X.suite a ((a, oe3) :: (X.pn ++ pins))) S3 hg hm q hdbg
          · exact ld_blt (X := X.suite a ((a, oe3) :: (X.pn ++ pins))) S3 hg hm hv q hnn hdbg
        refine test (LM.here ?_)
        cases b with
        | true =>
          refine codeAny_handlers_suite_as ?_
          refine HandSPX.lands_againZ fl3 fun h4 fl4 up4 => ?_
          have J4 : Inv X pins σ' H' { s' with heap := h4 } := J.landed nb fl4.1 ((up.trans up3).trans up4) os ag
          obtain ⟨oe4, vs4, he4, hz4, hd4⟩ := fl4.there
          have S4 := J4.suite he4 hd4 na nL nF
          have hloc : Loc X.env.scope n := .inl hln
          refine store_ok (X := X.suite a ((a, oe4) :: (X.pn ++ pins))) (v := .ref a) S4 hN hi hloc rfl (fun s5 S5 => ?_) (.inr hln)
          refine wpAny_mono ((hsu a oe4 cls d (X.pn ++ pins) hz4 ⟨_, hd4⟩).run [] s5 _ H' _ S5 (hyes rfl a na)) (fun f s6 hsp => ?_) (fun _ _ z => False.elim z)
          have end_ : ∀ {σ6 : L2.St} {H6 : Hp} {Q : Shared → Prop}, Inv (X.suite a ((a, oe4) :: (X.pn ++ pins))) [] σ6 H6 s6 → (∀ s7, Inv X pins (σ6.set i none) H6 s7 → Q s7) →
              wpAny (model X.prog X.w) X.A (do bindName X.env n .none; unbindBehindTheSuite X.env n pos') (fun _ s7 => Q s7) X.xe s6 := fun {σ6 H6 Q} S6 hq => gone_ok (S6.unsuite ok) hN hi hln hq
          cases f with
          | next =>
            obtain ⟨σ6, H6, S6, q6⟩ := hsp
            exact end_ S6 fun s7 J7 => ⟨_, _, J7, q6⟩
          | brk =>
            obtain ⟨σ6, H6, S6, q6⟩ := hsp
            exact end_ S6 fun s7 J7 => ⟨_, _, J7, q6⟩
          | cont =>
            obtain ⟨σ6, H6, S6, q6⟩ := hsp
            exact end_ S6 fun s7 J7 => ⟨_, _, J7, q6⟩
          | ret u =>
            obtain ⟨v6, σ6, H6, S6, r6, q6⟩ := hsp
            exact end_ S6 fun s7 J7 => ⟨_, _, _, J7, r6, q6⟩
        | false =>
          show wpAny _ X.A (handleBy (.ref a) X.env hds2) _ _ _
          exact ih (hno rfl)
    exact go hh w
  · cases f with
    | next =>
      obtain ⟨σ', H', J', q⟩ := hsp
      exact wpAny_execs_nil ⟨σ', H', J'.ofTry ok, q⟩
    | brk =>
      obtain ⟨σ', H', J', q⟩ := hsp
      exact ⟨σ', H', J'.ofTry ok, q⟩
    | cont =>
      obtain ⟨σ', H', J', q⟩ := hsp
      exact ⟨σ', H', J'.ofTry ok, q⟩
    | ret u =>
      obtain ⟨v, σ', H', J', r, q⟩ := hsp
      exact ⟨v, σ', H', J'.ofTry ok, r, q⟩
end
end Pl

end

section
set_option Elab.async false
set_option linter.all false
set_option maxRecDepth 100000
set_option maxHeartbeats 2000000
/-! PlW: layers and tables on the heap. -/
namespace Pl
open PySem PySem.Spec PyProof.Rows L2 Evl

/-- all but two addresses stays -/
def ExI (x dx : Addr) (H H' : Hp) : Prop := ∀ b o, b ≠ x → b ≠ dx → H b = some o → H' b = some o
theorem ExI.refl {x dx : Addr} {H : Hp} : ExI x dx H H := fun _ _ _ _ h => h
theorem ExI.ex {x dx : Addr} {H H1 H2 : Hp} (a : ExI x dx H H1) (e : Ex H1 H2) : ExI x dx H H2 := fun b o h1 h2 h => e b o (a b o h1 h2 h)
theorem ExI.sl {x dx C : Addr} {H H1 : Hp} {sv : List (Option V)} (a : ExI x dx H H1) : ExI x dx H (SlX.slH H1 x C dx sv) := fun b o h1 h2 h => by
  rw [SlX.slH_ne h1 h2]
  exact a b o h1 h2 h
/-- a fresh instance -/
structure Fresh (H : Hp) (x C dx : Addr) : Prop where
  ins : H x = some (.ins C dx [])
  own : H dx = some (.own x)
  ne : dx ≠ x
theorem fresh_of {H : Hp} {x C dx : Addr} (h : dx ≠ x) : Fresh (upd (upd H dx (.own x)) x (.ins C dx [])) x C dx := ⟨upd_same, by rw [upd_ne h, upd_same], h⟩
theorem ExI.new {H H' : Hp} {x C dx : Addr} (h1 : H x = none) (h2 : H dx = none) (e : ExI x dx (upd (upd H dx (.own x)) x (.ins C dx [])) H') : Ex H H' := fun b o hb => by
  have n1 := ne_of_none hb h1
  have n2 := ne_of_none hb h2
  exact e b o n1 n2 (by rw [upd_ne n1, upd_ne n2]; exact hb)
section
variable {K : Fg} {H H' : Hp} {x C dx a : Addr} {xs : List V}
theorem Fresh.exN (f : Fresh H x C dx) (e : ExI x dx H H') : ExN H H' := fun b o hb n => by
  refine e b o (fun z => ?_) (fun z => ?_) hb
  · rw [z, f.ins] at hb
    rw [← Option.some.inj hb] at n
    rcases n with ⟨_, h⟩ | ⟨_, _, h⟩ <;> cases h
  · rw [z, f.own] at hb
    rw [← Option.some.inj hb] at n
    rcases n with ⟨_, h⟩ | ⟨_, _, h⟩ <;> cases h
theorem Fresh.t (f : Fresh H x C dx) (e : ExI x dx H H') (h : SqT K H a xs) : SqT K H' a xs := exn_t (f.exN e) h
theorem Fresh.l (f : Fresh H x C dx) (e : ExI x dx H H') (h : SqL K H a xs) : SqL K H' a xs := by
  have key : ∀ o, H a = some o → (∀ C' d' fs, o ≠ .ins C' d' fs) → (∀ y, o ≠ .own y) → H' a = some o := fun o ho h1 h2 => e a o (fun z => by rw [z, f.ins] at ho; exact h1 _ _ _ (Option.some.inj ho).symm) (fun z => by rw [z, f.own] at ho; exact h2 _ (Option.some.inj ho).symm) ho
  rcases h with (h | ⟨o, h⟩) | h
  · exact .inl (.inl (key _ h (fun _ _ _ z => nomatch z) fun _ z => nomatch z))
  · exact .inl (.inr ⟨o, key _ h (fun _ _ _ z => nomatch z) fun _ z => nomatch z⟩)
  · exact .inr h
theorem Fresh.en {L : Bool} (f : Fresh H x C dx) (e : ExI x dx H H') (h : EnS K L a xs H) : EnS K L a xs H' := by
  cases L with
  | true => exact f.l e h
  | false => exact f.t e h
end
theorem cut_mem {ns : List Int} {b : Int} {k : Nat} (hp : ns.Pairwise (· < ·)) (c : Cut ns b k) : b ∈ ns ↔ ns[k]? = some b := by
  constructor
  · intro h
    obtain ⟨i, hi, e⟩ := List.mem_iff_getElem.mp h
    have h1 : ns[i]? = some b := by rw [List.getElem?_eq_getElem hi, e]
    have h2 := c.2 i b h1
    rcases Nat.lt_trichotomy i k with z | z | z
    · have := h2.mp z
      omega
    · rw [← z]
      exact h1
    · have hk : k < ns.length := by omega
      have h3 : ns[k]? = some ns[k] := List.getElem?_eq_getElem hk
      have h4 := c.2 k _ h3
      have h5 := pw_get hp h3 h1 z
      have := h4.mpr h5
      omega
  · exact fun h => List.mem_of_getElem? h
def findR (rs : List Rwv) (k : Int) : Option Rwv := rs.find? fun r => decide (r.key = k)
theorem findR_some {rs : List Rwv} (hp : (rs.map Rwv.key).Pairwise (· < ·)) {i : Nat} {r : Rwv} (h : rs[i]? = some r) : findR rs r.key = some r := by
  unfold findR
  induction rs generalizing i with
  | nil => simp at h
  | cons a l ih =>
    rw [List.map_cons, List.pairwise_cons] at hp
    cases i with
    | zero =>
      have ea := Option.some.inj h
      subst ea
      rw [List.find?_cons, decide_eq_true rfl]
    | succ i =>
      have h' : l[i]? = some r := by simpa using h
      have hlt := hp.1 r.key (List.mem_map.mpr ⟨r, List.mem_of_getElem? h', rfl⟩)
      rw [List.find?_cons, decide_eq_false (by omega)]
      exact ih hp.2 h'
theorem findR_none {rs : List Rwv} {k : Int} (h : k ∉ rs.map Rwv.key) : findR rs k = none := by
  unfold findR
  rw [List.find?_eq_none]
  intro r hr
  simp only [decide_eq_true_eq]
  exact fun z => h (List.mem_map.mpr ⟨r, hr, z⟩)
/-- a layer at x -/
structure VLay (K : Fg) (H : Hp) (C x : Addr) (n : Nat) (es : List Ent) : Prop where
  ex : ∃ dx le lk us, SlX.Slt H x C dx [some (.ref le), some (.ref lk), some (.int (n : Int))] ∧ SqL K H le us ∧ All2 (VE K H) us es ∧ SqL K H lk (vis (es.map Ent.key))
structure VTab (K : Fg) (H : Hp) (C x : Addr) (n : Nat) (rs : List Rwv) : Prop where
  ex : ∃ dx lk lr us, SlX.Slt H x C dx [some (.ref lk), some (.ref lr), some (.int (n : Int))] ∧ SqL K H lr us ∧ All2 (VR K H) us rs ∧ SqL K H lk (vis (rs.map Rwv.key))
section
variable {K : Fg} {H H' : Hp} {C x : Addr} {n : Nat}
theorem VLay.mono {es : List Ent} (e : Ex H H') (h : VLay K H C x n es) : VLay K H' C x n es := by
  obtain ⟨dx, le, lk, us, h1, h2, h3, h4⟩ := h
  exact ⟨dx, le, lk, us, ex_slt e h1, ex_l e h2, ves_ex (ExN.of e) h3, ex_l e h4⟩
theorem VTab.mono {rs : List Rwv} (e : Ex H H') (h : VTab K H C x n rs) : VTab K H' C x n rs := by
  obtain ⟨dx, lk, lr, us, h1, h2, h3, h4⟩ := h
  exact ⟨dx, lk, lr, us, ex_slt e h1, ex_l e h2, vrs_ex (ExN.of e) h3, ex_l e h4⟩
end
end Pl

end

section
set_option Elab.async false
set_option linter.all false
set_option maxRecDepth 100000
set_option maxHeartbeats 2000000
/-! PlX: defs with a star parameter and a keyword; conflicts, plain. -/
namespace Pl
open PySem PySem.Spec PyProof.Rows L2 Evl

theorem hu65 {A : Around} {k : Nat} (hr : Room k A) : A.units + 65 < cLine := by have := hr.un; omega
section
variable {P : Program} {w : World} {K : Fg} {mg : Str → Option Value} {base : Heap} {x qual q : Str} {st : Stmt} {N : List Str} {p1 pv : Str} {k : Nat} {sp : Sp} {f : Addr} {fd : FuncData}
/-- def f(a, *r, q = ..), q given by its name -/
theorem fna_star1 {nmax : Nat} (F : FunD K x qual (defArgs st) (defBody st) (defScope st) [] [] f fd) (S : FnScope N [p1, q, pv] (defScope st))
    (hb : ∀ (kV doc pm : Value) (an : Option Addr) (cdv ct : Value) (a : Value) (rest : List Value) (z : Value), rest.length ≤ nmax → bindArgs (PySem.W.fnOf x qual (defArgs st) (defBody st) (defScope st) .none kV doc pm an cdv ct) ⟨a :: rest, [(q, z)]⟩ = (newTuple rest >>= fun t => pure [(p1, a), (q, z), (pv, t)]))
    (hm : nmax ≤ sizeLine) (hw : Walked P w K mg base k N qual st f sp) :
    FnA P w K mg base (k + 1) f [q] (fun vs H Q E => ∃ a rest z, vs = a :: rest ++ [z] ∧ rest.length ≤ nmax ∧ ∀ p, H p = none → sp [a, z, .ref p] (upd H p (.tup rest)) Q E) := by
  obtain ⟨oc, od, dV, kV, doc, pm, an, cdv, ct, osl, rfl, lk, hcd, hD, hK⟩ := F.ex
  rcases hD with ⟨_, rfl⟩ | ⟨e, _⟩
  · intro A outer s H us ws vs zs Q E hr e0 r1 r2 l h
    obtain ⟨a, rest, z, ev, hz', hq⟩ := h
    have hz : rest.length ≤ sizeLine := Nat.le_trans hz' hm
    match ws, l, r2 with
    | [y], _, r2 =>
      obtain ⟨vz, rfl, rz⟩ : ∃ vz, zs = [vz] ∧ RelV vz y := by
        cases r2 with
        | cons r rn =>
          cases rn
          exact ⟨_, rfl, r⟩
      have ev2 : vs = a :: rest ∧ vz = z := by
        have := List.append_inj' (show vs ++ [vz] = (a :: rest) ++ [z] from ev) rfl
        exact ⟨this.1, by have := this.2; injection this⟩
      obtain ⟨e1, e2⟩ := ev2
      subst e1 e2
      cases r1 with
      | cons ra rr =>
        rename_i ua urest
        have hn : H s.heap.objs.size = Option.none := e0.hok.fresh (Nat.le_refl _)
        have hl2 : urest.length ≤ sizeLine := by rw [← rr.length]; exact hz
        refine StX.run_bnd lk hcd S hr e0 (G := fun xs H2 => ∃ p, H p = Option.none ∧ xs = [a, vz, V.ref p] ∧ H2 = upd H p (.tup rest)) (fun A' Ex' Q' h' => ?_) fun s2 H2 xs ⟨p, hp, ex, eH⟩ hr' => ?_
        · show wpAny _ _ (bindArgs _ ⟨ua :: urest, [(q, y)]⟩) _ _ _
          rw [hb _ _ _ _ _ _ _ _ _ (by rw [← rr.length]; exact hz')]
          refine wpAny_bind (wpAny_newTuple (wpAny_pure ?_) hl2)
          have new : ObjOk P w (upd H s.heap.objs.size (.tup rest)) (s.heap.push ({ cls := .type "tuple", data := .seq urest.toArray } : Obj)) s.heap.objs.size (.tup rest) := ⟨hz, urest, rr, ⟨_, Heap.get?_push_size _ rfl, rfl, _, rfl⟩⟩
          have un := StX.un_laid (fs := frs outer) (s := s) (o := ({ cls := .type "tuple", data := .seq urest.toArray } : Obj)) (u := .tup rest) hn
          exact h' _ _ [a, vz, V.ref s.heap.objs.size] [ua, y, Value.ref s.heap.objs.size] (StX.env0_laid e0 new) un rfl (fun e s' => StX.cxUp outer s H _ _ E e s' un (fun b o q => Heap.get?_push_of_some _ q) rfl) (.cons ra (.cons rz (.cons rfl .nil))) rfl ⟨_, hn, rfl, rfl⟩
        · subst ex eH
          exact hw cdv A outer s2 _ _ Q E hr' (hq p hp)
  · exact absurd rfl e
end
/-! ### conflicts -/
def ByRow (s : Str) : Prop := s = ("row" : Str)
instance (s : Str) : Decidable (ByRow s) := inferInstanceAs (Decidable (s = _))
/-- the columns in which two rows differ -/
def diffC (a b : Rwv) : List Nat := (List.range a.length).filter fun c => decide (a[c]? ≠ b[c]?)
def inConf (by_ : Str) (e f : Ent) : Bool := decide (ByRow by_) || match e.o, e.n, f.o, f.n with
  | some a, some b, some c, some d => (diffC a b).any fun x => (diffC c d).contains x
  | _, _, _, _ => true
def confP (by_ : Str) (fs : List Ent) (e : Ent) : Bool := match findE fs e.key with
  | none => false
  | some f => inConf by_ e f
def conflM (by_ : Str) (es fs : List Ent) : List (Int × Int) := (es.filter (confP by_ fs)).map fun e => (e.p, e.key)
def VP (K : Fg) (H : Hp) (v : V) (p : Int × Int) : Prop := ∃ t, v = .ref t ∧ SqT K H t [.int p.1, .int p.2]
theorem VP.ex {K : Fg} {H H' : Hp} {v : V} {p : Int × Int} (e : ExN H H') (h : VP K H v p) : VP K H' v p := by
  obtain ⟨t, ev, h⟩ := h
  exact ⟨t, ev, exn_t e h⟩
theorem confl_snoc {by_ : Str} {es fs : List Ent} {i : Nat} {e : Ent} (h : es[i]? = some e) : conflM by_ (es.take (i + 1)) fs = conflM by_ (es.take i) fs ++ if confP by_ fs e = true then [(e.p, e.key)] else [] := by
  unfold conflM
  rw [take_snoc h, List.filter_append, List.map_append]
  congr 1
  rw [List.filter_cons]
  split <;> rfl
theorem confl_len (by_ : Str) (es fs : List Ent) : (conflM by_ es fs).length ≤ es.length := by
  unfold conflM
  rw [List.length_map]
  exact List.length_filter_le _ _
/-- the entry has no row on one side -/
def Half (e : Ent) : Prop := e.o = none ∨ e.n = none
theorem inConf_half {s : Str} {e f : Ent} (h : ByRow s ∨ Half e ∨ Half f) : inConf s e f = true := by
  unfold inConf
  by_cases hb : ByRow s
  · rw [decide_eq_true hb, Bool.true_or]
  · rw [decide_eq_false hb, Bool.false_or]
    rcases h with h | (h | h) | (h | h)
    · exact absurd h hb
    · rw [h]
    · rw [h]
      cases e.o <;> rfl
    · rw [h]
      cases e.o <;> cases e.n <;> rfl
    · rw [h]
      cases e.o <;> cases e.n <;> cases f.o <;> rfl
theorem cut3 (a b c : V) : cutV [a, b, c] (some 1) Option.none = [b, c] := rfl
end Pl

end

section
set_option Elab.async false
set_option linter.all false
set_option maxRecDepth 100000
set_option maxHeartbeats 2000000
/-! PlY: layers of one entry that deletes a row: linked, in conflict. -/
namespace Pl
open PySem PySem.Spec PyProof.Rows L2 Evl

def delE (p : Int) (r : Rwv) : Ent := ⟨p, some r, none⟩
theorem del_key (p : Int) (r : Rwv) : (delE p r).key = r.key := rfl
theorem del_ok {n : Nat} {p : Int} {r : Rwv} (hp : 0 ≤ p) (h : RowOk n r) : EntOk n (delE p r) := ⟨hp, h, trivial, trivial⟩
theorem del_ents {n : Nat} {p : Int} {r : Rwv} (hp : 0 ≤ p) (h : RowOk n r) : EntsOk n [delE p r] := ⟨fun e he => by
  rw [List.mem_singleton] at he
  rw [he]
  exact del_ok hp h, trivial⟩
theorem turned_one (p : Int) (r : Rwv) : turnedM [delE p r] = [⟨p + 0, none, some r⟩] := rfl
theorem find_one (e : Ent) (k : Int) : findE [e] k = if e.key = k then some e else none := by
  unfold findE
  rw [List.find?_cons]
  by_cases h : e.key = k
  · rw [decide_eq_true h, if_pos h]
  · rw [decide_eq_false h, if_neg h]
    rfl
theorem keys_lt {e f : Ent} (h : f.key < e.key) : keysOf [e] [f] = [f.key, e.key] := by
  show insK e.key (insK f.key []) = _
  unfold insK
  show insK e.key [f.key] = _
  unfold insK
  rw [if_neg (by omega), if_neg (by omega)]
  rfl
theorem keys_gt {e f : Ent} (h : e.key < f.key) : keysOf [e] [f] = [e.key, f.key] := by
  show insK e.key (insK f.key []) = _
  unfold insK
  show insK e.key [f.key] = _
  unfold insK
  rw [if_pos h]
theorem keys_eq {e f : Ent} (h : e.key = f.key) : keysOf [e] [f] = [e.key] := by
  show insK e.key (insK f.key []) = _
  unfold insK
  show insK e.key [f.key] = _
  unfold insK
  rw [if_neg (by omega), if_pos h, h]
/-- one row deleted; the row below it (in key) deleted behind it (in place) -/
theorem no_base1 {r s : Rwv} (h : s.key = r.key - 1) : linksM (turnedM [delE 0 r]) [delE 1 s] = none := by
  rw [turned_one]
  have ke : Ent.key ⟨0 + 0, none, some r⟩ = r.key := rfl
  unfold linksM
  rw [keys_lt (e := ⟨0 + 0, none, some r⟩) (f := delE 1 s) (by rw [ke, del_key]; omega)]
  unfold linksG
  rw [find_one, find_one, ke, del_key, if_neg (by omega), if_pos rfl]
  show Option.map _ (linksG _ _ [r.key] _ _) = none
  unfold linksG
  rw [find_one, find_one, ke, del_key, if_pos rfl, if_neg (by omega)]
  rfl
theorem no_base2 {r s : Rwv} (h : s.key = r.key - 1) : linksM (turnedM [delE 1 s]) [delE 0 r] = none := by
  rw [turned_one]
  have ke : Ent.key ⟨1 + 0, none, some s⟩ = s.key := rfl
  unfold linksM
  rw [keys_gt (e := ⟨1 + 0, none, some s⟩) (f := delE 0 r) (by rw [ke, del_key]; omega)]
  unfold linksG
  rw [find_one, find_one, ke, del_key, if_pos rfl, if_neg (by omega)]
  show Option.map _ (linksG _ _ [r.key] _ _) = none
  unfold linksG
  rw [find_one, find_one, ke, del_key, if_neg (by omega), if_pos rfl]
  rfl
theorem same_base (r : Rwv) : (linksM (turnedM [delE 0 r]) [delE 0 r]).isSome = true := by
  rw [turned_one]
  have ke : Ent.key ⟨0 + 0, none, some r⟩ = r.key := rfl
  unfold linksM
  rw [keys_eq (e := ⟨0 + 0, none, some r⟩) (f := delE 0 r) rfl]
  unfold linksG
  rw [find_one, find_one, ke, del_key, if_pos rfl, if_pos rfl]
  unfold linkM
  show (match (if (some r ≠ some r ∨ (0 : Int) + 0 + 0 ≠ 0) then none else some _ : Option Lnk) with | none => none | some L => _ : Option (List Lnk)).isSome = true
  rw [if_neg (by intro h; rcases h with h | h; exact h rfl; exact h (by decide))]
  rfl
theorem same_conf (s : Str) (r : Rwv) : conflM s [delE 0 r] [delE 0 r] ≠ [] := by
  have h : confP s [delE 0 r] (delE 0 r) = true := by
    unfold confP
    rw [find_one, if_pos rfl]
    exact inConf_half (.inr (.inl (.inr rfl)))
  unfold conflM
  rw [List.filter_cons, if_pos h]
  simp
end Pl

end


end

section
set_option Elab.async false
set_option linter.all false
set_option maxRecDepth 100000
set_option maxHeartbeats 2000000
/-! PlZ: layers between tables that are functions of the key. -/
namespace Pl
open PySem PySem.Spec PyProof.Rows L2 Evl
abbrev Tb := Int → Option Rwv
def TbOk (w : Nat) (f : Tb) : Prop := ∀ k r, f k = some r → Rwv.key r = k ∧ RowOk w r
def difA (f g : Tb) : Int → List Int → List Ent
  | _, [] => []
  | a, k :: ks => if f k = g k then difA f g (a + b2 (f k).isSome) ks else ⟨a, f k, g k⟩ :: difA f g (a + b2 (f k).isSome) ks
theorem difA_cons {f g : Tb} {a k : Int} {ks : List Int} : difA f g a (k :: ks) = if f k = g k then difA f g (a + b2 (f k).isSome) ks else ⟨a, f k, g k⟩ :: difA f g (a + b2 (f k).isSome) ks := rfl
theorem fm_congr {α β : Type} {u v : α → Option β} : ∀ {l : List α}, (∀ x ∈ l, u x = v x) → l.filterMap u = l.filterMap v
  | [], _ => rfl
  | x :: l, h => by
    rw [List.filterMap_cons, List.filterMap_cons, h x List.mem_cons_self, fm_congr fun y hy => h y (List.mem_cons_of_mem _ hy)]
def dif (K0 : List Int) (f g : Tb) : List Ent := difA f g 0 K0
theorem turn_difA {f g : Tb} : ∀ {ks : List Int} {a c : Int}, turnG (c - a) (difA f g a ks) = difA g f c ks
  | [], _, _ => rfl
  | k :: ks, a, c => by
    unfold difA
    by_cases h : f k = g k
    · rw [if_pos h, if_pos h.symm, ← turn_difA (a := a + b2 (f k).isSome) (c := c + b2 (g k).isSome), ← h]
      congr 1
      omega
    · rw [if_neg h, if_neg (Ne.symm h)]
      show (⟨a + (c - a), g k, f k⟩ : Ent) :: turnG (c - a + (b2 (g k).isSome - b2 (f k).isSome)) _ = _
      rw [← turn_difA (a := a + b2 (f k).isSome) (c := c + b2 (g k).isSome)]
      have e1 : a + (c - a) = c := by omega
      have e2 : c - a + (b2 (g k).isSome - b2 (f k).isSome) = c + b2 (g k).isSome - (a + b2 (f k).isSome) := by omega
      rw [e1, e2]
theorem turned_dif {K0 : List Int} {f g : Tb} : turnedM (dif K0 f g) = dif K0 g f := by
  have h := turn_difA (f := f) (g := g) (ks := K0) (a := 0) (c := 0)
  exact h
/-- how many rows of f stand before k -/
def rk (f : Tb) : List Int → Int → Int
  | [], _ => 0
  | j :: ks, k => (if j < k then b2 (f j).isSome else 0) + rk f ks k
theorem key_of {w : Nat} {f g : Tb} (hf : TbOk w f) (hg : TbOk w g) {k p : Int} (h : f k ≠ g k) : Ent.key ⟨p, f k, g k⟩ = k := by
  unfold Ent.key
  cases e : f k with
  | some r => exact (hf k r e).1
  | none =>
    cases e2 : g k with
    | some r => exact (hg k r e2).1
    | none => exact absurd (e.trans e2.symm) h
theorem rk_ge {f : Tb} : ∀ {ks : List Int} {k : Int}, (∀ j ∈ ks, k ≤ j) → rk f ks k = 0
  | [], _, _ => rfl
  | j :: ks, k, h => by
    unfold rk
    rw [if_neg (by have := h j List.mem_cons_self; omega), rk_ge fun i hi => h i (List.mem_cons_of_mem _ hi)]
    rfl
/-- the entries, one a key -/
theorem difA_eq {f g : Tb} : ∀ {ks : List Int} {a : Int}, ks.Pairwise (· < ·) → difA f g a ks = ks.filterMap fun k => if f k = g k then none else some ⟨a + rk f ks k, f k, g k⟩
  | [], _, _ => rfl
  | k :: ks, a, hp => by
    rw [List.pairwise_cons] at hp
    have e0 : rk f (k :: ks) k = 0 := rk_ge fun j hj => by
      rcases List.mem_cons.mp hj with z | z
      · omega
      · have := hp.1 j z
        omega
    have et : (ks.filterMap fun j => if f j = g j then none else some (⟨a + rk f (k :: ks) j, f j, g j⟩ : Ent)) = difA f g (a + b2 (f k).isSome) ks := by
      rw [difA_eq hp.2]
      refine fm_congr fun j hj => ?_
      have e : rk f (k :: ks) j = b2 (f k).isSome + rk f ks j := by
        show (if k < j then _ else _) + _ = _
        rw [if_pos (hp.1 j hj)]
      rw [e, Int.add_assoc]
    rw [List.filterMap_cons, et, difA_cons]
    by_cases h : f k = g k
    · simp only [if_pos h]
    · simp only [if_neg h, e0, Int.add_zero]
theorem dif_eq {K0 : List Int} {f g : Tb} (hp : K0.Pairwise (· < ·)) : dif K0 f g = K0.filterMap fun k => if f k = g k then none else some ⟨rk f K0 k, f k, g k⟩ := by
  unfold dif
  rw [difA_eq hp]
  refine fm_congr fun j hj => ?_
  rw [Int.zero_add]
def tch (f g h : Tb) (k : Int) : Bool := !(decide (f k = g k) && decide (g k = h k))
def lnkA (f g h : Tb) : Int → List Int → List Lnk
  | _, [] => []
  | a, k :: ks => if tch f g h k = true then ⟨a, f k, g k, h k⟩ :: lnkA f g h (a + b2 (f k).isSome) ks else lnkA f g h (a + b2 (f k).isSome) ks
theorem b2_01 (b : Bool) : 0 ≤ b2 b ∧ b2 b ≤ 1 := by cases b <;> exact ⟨by decide, by decide⟩
theorem rk_head {f : Tb} {k : Int} {ks : List Int} (h : ∀ j ∈ ks, k < j) : rk f (k :: ks) k = 0 := rk_ge fun j hj => by
  rcases List.mem_cons.mp hj with z | z
  · omega
  · have := h j z
    omega
theorem rk_tail {f : Tb} {k j : Int} {ks : List Int} (h : k < j) : rk f (k :: ks) j = b2 (f k).isSome + rk f ks j := by
  show (if k < j then _ else _) + _ = _
  rw [if_pos h]
theorem links_dif {A B : Int → Option Ent} {f g h : Tb} : ∀ {ks : List Int} {a c : Int} {prev : Option (Int × Lnk)}, ks.Pairwise (· < ·) →
    (∀ k ∈ ks, A k = if f k = g k then none else some ⟨a + rk f ks k, f k, g k⟩) → (∀ k ∈ ks, B k = if g k = h k then none else some ⟨c + rk g ks k, g k, h k⟩) →
    (∀ l P, prev = some (l, P) → 0 ≤ a - P.p - b2 P.a.isSome ∧ ∀ k ∈ ks, a - P.p - b2 P.a.isSome < k - l) →
    linksG A B (ks.filter (tch f g h)) (c - a) prev = some (lnkA f g h a ks)
  | [], _, _, _, _, _, _, _ => rfl
  | k :: ks, a, c, prev, hp, hA, hB, hP => by
    rw [List.pairwise_cons] at hp
    have hA0 := hA k List.mem_cons_self
    have hB0 := hB k List.mem_cons_self
    rw [rk_head hp.1, Int.add_zero] at hA0 hB0
    have hA' : ∀ j ∈ ks, A j = if f j = g j then none else some ⟨a + b2 (f k).isSome + rk f ks j, f j, g j⟩ := fun j hj => by
      rw [hA j (List.mem_cons_of_mem _ hj), rk_tail (hp.1 j hj), Int.add_assoc]
    have hB' : ∀ j ∈ ks, B j = if g j = h j then none else some ⟨c + b2 (g k).isSome + rk g ks j, g j, h j⟩ := fun j hj => by
      rw [hB j (List.mem_cons_of_mem _ hj), rk_tail (hp.1 j hj), Int.add_assoc]
    have b := b2_01 (f k).isSome
    have ec : c + b2 (g k).isSome - (a + b2 (f k).isSome) = c - a + growO (A k) := by
      rw [hA0]
      by_cases e : f k = g k
      · rw [if_pos e, e]
        show _ = c - a + 0
        omega
      · rw [if_neg e]
        show _ = c - a + (b2 (g k).isSome - b2 (f k).isSome)
        omega
    by_cases ht : tch f g h k = true
    · rw [List.filter_cons_of_pos ht]
      have el : linkM (A k) (B k) (c - a) = some ⟨a, f k, g k, h k⟩ := by
        rw [hA0, hB0]
        by_cases e : f k = g k
        · by_cases e2 : g k = h k
          · exfalso
            unfold tch at ht
            rw [decide_eq_true e, decide_eq_true e2] at ht
            cases ht
          · rw [if_pos e, if_neg e2]
            show some (⟨c - (c - a), g k, g k, h k⟩ : Lnk) = _
            have : c - (c - a) = a := by omega
            rw [this, e]
        · by_cases e2 : g k = h k
          · rw [if_neg e, if_pos e2]
            show some (⟨a, f k, g k, g k⟩ : Lnk) = _
            rw [← e2]
          · rw [if_neg e, if_neg e2]
            show (if g k ≠ g k ∨ a + (c - a) ≠ c then none else some (⟨a, f k, g k, h k⟩ : Lnk)) = _
            rw [if_neg]
            rintro (z | z)
            · exact z rfl
            · omega
      have eg : gapBad prev k ⟨a, f k, g k, h k⟩ = false := by
        cases prev with
        | none => rfl
        | some q =>
          obtain ⟨l, P⟩ := q
          have z := hP l P rfl
          have z2 := z.2 k List.mem_cons_self
          show (!(decide (0 ≤ a - P.p - b2 P.a.isSome) && decide (a - P.p - b2 P.a.isSome < k - l))) = false
          rw [decide_eq_true z.1, decide_eq_true z2]
          rfl
      have ih := links_dif (A := A) (B := B) (f := f) (g := g) (h := h) (prev := some (k, ⟨a, f k, g k, h k⟩)) hp.2 hA' hB' (fun l P e => by
        injection e with e
        injection e with e1 e2
        subst e1 e2
        refine ⟨?_, fun j hj => ?_⟩
        · show 0 ≤ a + b2 (f k).isSome - a - b2 (f k).isSome
          omega
        · show a + b2 (f k).isSome - a - b2 (f k).isSome < j - k
          have := hp.1 j hj
          omega)
      unfold linksG
      rw [el]
      simp only [eg]
      rw [← ec, ih]
      show _ = some (if tch f g h k = true then _ else _)
      rw [if_pos ht]
      rfl
    · rw [List.filter_cons_of_neg ht]
      have e1 : f k = g k := by
        unfold tch at ht
        rw [Bool.not_eq_true, Bool.not_eq_false', Bool.and_eq_true] at ht
        exact of_decide_eq_true ht.1
      have e0 : c - a = c + b2 (g k).isSome - (a + b2 (f k).isSome) := by
        rw [e1]
        omega
      rw [e0, links_dif (A := A) (B := B) (f := f) (g := g) (h := h) (prev := prev) hp.2 hA' hB' (fun l P e => by
        have z := hP l P e
        refine ⟨by omega, fun j hj => ?_⟩
        have := z.2 k List.mem_cons_self
        have := hp.1 j hj
        omega)]
      show _ = some (if tch f g h k = true then _ else _)
      rw [if_neg ht]
end Pl

end

section
set_option Elab.async false
set_option linter.all false
set_option maxRecDepth 100000
set_option maxHeartbeats 2000000
/-! PlZb: the same, on. -/
namespace Pl
open PySem PySem.Spec PyProof.Rows L2 Evl
def Sup (K0 : List Int) (f : Tb) : Prop := ∀ k, k ∉ K0 → f k = none
theorem dif_keys {w : Nat} {K0 : List Int} {f g : Tb} (hf : TbOk w f) (hg : TbOk w g) (hp : K0.Pairwise (· < ·)) : (dif K0 f g).map Ent.key = K0.filter fun k => !decide (f k = g k) := by
  rw [dif_eq hp]
  generalize rk f K0 = r
  clear hp
  induction K0 with
  | nil => rfl
  | cons k ks ih =>
    rw [List.filterMap_cons]
    by_cases h : f k = g k
    · rw [List.filter_cons_of_neg (by simp [h])]
      simp only [if_pos h]
      exact ih
    · rw [List.filter_cons_of_pos (by simp [h])]
      simp only [if_neg h, List.map_cons]
      rw [ih, key_of hf hg h]
theorem dif_mem {w : Nat} {K0 : List Int} {f g : Tb} (hp : K0.Pairwise (· < ·)) {e : Ent} (he : e ∈ dif K0 f g) : ∃ k ∈ K0, f k ≠ g k ∧ e = ⟨rk f K0 k, f k, g k⟩ := by
  rw [dif_eq hp, List.mem_filterMap] at he
  obtain ⟨k, hk, h⟩ := he
  by_cases e : f k = g k
  · rw [if_pos e] at h
    cases h
  · rw [if_neg e] at h
    exact ⟨k, hk, e, (Option.some.inj h).symm⟩
theorem mem_dif {K0 : List Int} {f g : Tb} (hp : K0.Pairwise (· < ·)) {k : Int} (hk : k ∈ K0) (h : f k ≠ g k) : (⟨rk f K0 k, f k, g k⟩ : Ent) ∈ dif K0 f g := by
  rw [dif_eq hp, List.mem_filterMap]
  exact ⟨k, hk, if_neg h⟩
theorem dif_pw {w : Nat} {K0 : List Int} {f g : Tb} (hf : TbOk w f) (hg : TbOk w g) (hp : K0.Pairwise (· < ·)) : ((dif K0 f g).map Ent.key).Pairwise (· < ·) := by
  rw [dif_keys hf hg hp]
  exact hp.sublist List.filter_sublist
theorem findE_dif {w : Nat} {K0 : List Int} {f g : Tb} (hf : TbOk w f) (hg : TbOk w g) (hp : K0.Pairwise (· < ·)) (sf : Sup K0 f) (sg : Sup K0 g) (k : Int) :
    findE (dif K0 f g) k = if f k = g k then none else some ⟨rk f K0 k, f k, g k⟩ := by
  by_cases h : f k = g k
  · rw [if_pos h]
    refine findE_none ?_
    rw [dif_keys hf hg hp, List.mem_filter]
    rintro ⟨_, z⟩
    rw [decide_eq_true h] at z
    cases z
  · rw [if_neg h]
    have hk : k ∈ K0 := Classical.byContradiction fun z => h ((sf k z).trans (sg k z).symm)
    obtain ⟨i, hi, e⟩ := List.mem_iff_getElem.mp (mem_dif hp hk h)
    have e' : (dif K0 f g)[i]? = some ⟨rk f K0 k, f k, g k⟩ := by rw [List.getElem?_eq_getElem hi, e]
    have z := findE_some (dif_pw hf hg hp) e'
    rw [key_of hf hg h] at z
    exact z
theorem keysOf_dif {w : Nat} {K0 : List Int} {f g h : Tb} (hf : TbOk w f) (hg : TbOk w g) (hh : TbOk w h) (hp : K0.Pairwise (· < ·)) : keysOf (dif K0 f g) (dif K0 g h) = K0.filter (tch f g h) := by
  unfold keysOf
  symm
  refine keysU_rise (hp.sublist List.filter_sublist) fun x => ?_
  rw [List.map_append, List.mem_append, dif_keys hf hg hp, dif_keys hg hh hp, List.mem_filter, List.mem_filter, List.mem_filter]
  unfold tch
  by_cases e1 : f x = g x
  · by_cases e2 : g x = h x
    · simp [e1, e2]
    · simp [e1, e2]
  · simp only [e1, decide_false, Bool.not_false, Bool.false_and, and_true]
    exact ⟨fun z => .inl z, fun z => z.elim id fun q => q.1⟩
theorem linksM_dif {w : Nat} {K0 : List Int} {f g h : Tb} (hf : TbOk w f) (hg : TbOk w g) (hh : TbOk w h) (hp : K0.Pairwise (· < ·)) (sf : Sup K0 f) (sg : Sup K0 g) (sh : Sup K0 h) :
    linksM (dif K0 f g) (dif K0 g h) = some (lnkA f g h 0 K0) := by
  unfold linksM
  rw [keysOf_dif hf hg hh hp]
  have z := links_dif (A := findE (dif K0 f g)) (B := findE (dif K0 g h)) (f := f) (g := g) (h := h) (a := 0) (c := 0) (prev := none) hp (fun k _ => by rw [findE_dif hf hg hp sf sg k, Int.zero_add]) (fun k _ => by rw [findE_dif hg hh hp sg sh k, Int.zero_add]) (fun _ _ e => by cases e)
  exact z
/-- joined, of links -/
def joinL (Ls : List Lnk) : List Ent := Ls.filterMap fun L => if L.a = L.c then none else some ⟨L.p, L.a, L.c⟩
theorem joinL_lnkA {f g h : Tb} : ∀ {ks : List Int} {a : Int}, joinL (lnkA f g h a ks) = difA f h a ks
  | [], _ => rfl
  | k :: ks, a => by
    have ih := joinL_lnkA (f := f) (g := g) (h := h) (ks := ks) (a := a + b2 (f k).isSome)
    rw [difA_cons]
    show joinL (if tch f g h k = true then (⟨a, f k, g k, h k⟩ : Lnk) :: lnkA f g h (a + b2 (f k).isSome) ks else lnkA f g h (a + b2 (f k).isSome) ks) = _
    by_cases ht : tch f g h k = true
    · rw [if_pos ht]
      unfold joinL
      rw [List.filterMap_cons]
      by_cases e : f k = h k
      · rw [if_pos e]
        simp only [if_pos e]
        exact ih
      · rw [if_neg e]
        simp only [if_neg e]
        rw [← ih]
        rfl
    · rw [if_neg ht]
      have e : f k = h k := by
        unfold tch at ht
        rw [Bool.not_eq_true, Bool.not_eq_false', Bool.and_eq_true] at ht
        exact (of_decide_eq_true ht.1).trans (of_decide_eq_true ht.2)
      rw [if_pos e, ih]
/-- the entries of such a layer are a layer's -/
theorem chain_difA {w : Nat} {f g : Tb} (hf : TbOk w f) (hg : TbOk w g) : ∀ {ks : List Int} {a : Int}, ks.Pairwise (· < ·) → Chain InOrd (difA f g a ks) ∧
    ∀ e : Ent, (0 ≤ a - e.p - b2 e.o.isSome ∧ ∀ k ∈ ks, a - e.p - b2 e.o.isSome < k - e.key) → Chain InOrd (e :: difA f g a ks)
  | [], _, _ => ⟨trivial, fun _ _ => trivial⟩
  | k :: ks, a, hp => by
    rw [List.pairwise_cons] at hp
    have b := b2_01 (f k).isSome
    obtain ⟨c1, c2⟩ := chain_difA hf hg (ks := ks) (a := a + b2 (f k).isSome) hp.2
    rw [difA_cons]
    by_cases h : f k = g k
    · rw [if_pos h]
      refine ⟨c1, fun e he => c2 e ⟨by omega, fun j hj => ?_⟩⟩
      have := he.2 k List.mem_cons_self
      have := hp.1 j hj
      omega
    · rw [if_neg h]
      have kk := key_of (p := a) hf hg h
      have cc : Chain InOrd ((⟨a, f k, g k⟩ : Ent) :: difA f g (a + b2 (f k).isSome) ks) := c2 _ ⟨by show 0 ≤ a + b2 (f k).isSome - a - b2 (f k).isSome; omega, fun j hj => by
        rw [kk]
        show a + b2 (f k).isSome - a - b2 (f k).isSome < j - k
        have := hp.1 j hj
        omega⟩
      refine ⟨cc, fun e he => ⟨⟨he.1, ?_⟩, cc⟩⟩
      rw [kk]
      exact he.2 k List.mem_cons_self
theorem rk_nonneg {f : Tb} : ∀ {ks : List Int} {k : Int}, 0 ≤ rk f ks k
  | [], _ => Int.le_refl 0
  | j :: ks, k => by
    show 0 ≤ (if j < k then b2 (f j).isSome else 0) + rk f ks k
    have := rk_nonneg (f := f) (ks := ks) (k := k)
    have := b2_01 (f j).isSome
    by_cases h : j < k
    · rw [if_pos h]
      omega
    · rw [if_neg h]
      omega
theorem orow_ok {w : Nat} {f : Tb} (hf : TbOk w f) (k : Int) : ORowOk w (f k) := by
  cases e : f k with
  | none => trivial
  | some r => exact (hf k r e).2
theorem dif_ok {w : Nat} {K0 : List Int} {f g : Tb} (hf : TbOk w f) (hg : TbOk w g) (hp : K0.Pairwise (· < ·)) : EntsOk w (dif K0 f g) := by
  refine ⟨fun e he => ?_, (chain_difA hf hg hp).1⟩
  obtain ⟨k, hk, h, rfl⟩ := dif_mem (w := w) hp he
  refine ⟨rk_nonneg, orow_ok hf k, orow_ok hg k, ?_⟩
  show match f k, g k with
    | none, none => False
    | some a, some b => Rwv.key a = Rwv.key b ∧ a ≠ b
    | _, _ => True
  cases e1 : f k with
  | none =>
    cases e2 : g k with
    | none => exact h (e1.trans e2.symm)
    | some b => trivial
  | some a =>
    cases e2 : g k with
    | none => trivial
    | some b => exact ⟨(hf k a e1).1.trans (hg k b e2).1.symm, fun z => h (by rw [e1, e2, z])⟩
end Pl

end

section
set_option Elab.async false
set_option linter.all false
set_option maxRecDepth 100000
set_option maxHeartbeats 2000000
/-! PlZc: growth before a key; a layer moved over another; changes shared out. -/
namespace Pl
open PySem PySem.Spec PyProof.Rows L2 Evl
def growB (es : List Ent) (k : Int) : Int := ((es.filter fun e => decide (e.key < k)).map Ent.grow).sum
theorem take_cut {k : Int} : ∀ {es : List Ent} {c : Nat}, Cut (es.map Ent.key) k c → es.take c = es.filter fun e => decide (e.key < k)
  | [], c, _ => by simp
  | e :: es, 0, h => by
    symm
    rw [List.take_zero, List.filter_eq_nil_iff]
    intro f hf
    obtain ⟨i, hi, e'⟩ := List.mem_iff_getElem.mp hf
    have h2 := (h.2 i f.key (by rw [List.getElem?_map, List.getElem?_eq_getElem hi, e']; rfl)).mpr
    simp only [decide_eq_true_eq]
    intro z
    have := h2 z
    omega
  | e :: es, c + 1, h => by
    have h0 := (h.2 0 e.key rfl).mp (by omega)
    have h1 := h.1
    rw [List.map_cons, List.length_cons] at h1
    rw [List.take_succ_cons, List.filter_cons_of_pos (by simpa using h0), take_cut (k := k) (es := es) (c := c) ⟨by omega, fun i x hx => by
      have := h.2 (i + 1) x (by simpa using hx)
      omega⟩]
theorem gsum_cut {es : List Ent} {k : Int} {c : Nat} (h : Cut (es.map Ent.key) k c) : gsum es c = growB es k := by
  unfold gsum growB
  rw [take_cut h]
theorem growB_difA {w : Nat} {f g : Tb} (hf : TbOk w f) (hg : TbOk w g) : ∀ {ks : List Int} {a k : Int}, growB (difA f g a ks) k = rk g ks k - rk f ks k
  | [], _, _ => rfl
  | j :: ks, a, k => by
    have ih := growB_difA hf hg (ks := ks) (a := a + b2 (f j).isSome) (k := k)
    rw [difA_cons]
    show _ = (if j < k then b2 (g j).isSome else 0) + rk g ks k - ((if j < k then b2 (f j).isSome else 0) + rk f ks k)
    by_cases h : f j = g j
    · rw [if_pos h, ih, h]
      split <;> omega
    · rw [if_neg h]
      unfold growB
      rw [List.filter_cons, key_of hf hg h]
      by_cases hl : j < k
      · rw [decide_eq_true hl, if_pos rfl, List.map_cons, List.sum_cons, if_pos hl, if_pos hl]
        show (b2 (g j).isSome - b2 (f j).isSome) + growB _ k = _
        rw [ih]
        omega
      · rw [decide_eq_false hl, if_neg (by decide), if_neg hl, if_neg hl]
        show growB _ k = _
        rw [ih]
        omega
theorem growB_dif {w : Nat} {K0 : List Int} {f g : Tb} (hf : TbOk w f) (hg : TbOk w g) (k : Int) : growB (dif K0 f g) k = rk g K0 k - rk f K0 k := growB_difA hf hg
/-! ### conflicts -/
section
variable {w : Nat} {K0 : List Int} {B f g : Tb} {by_ : Str}
theorem confP_dif (hB : TbOk w B) (hf : TbOk w f) (hg : TbOk w g) (hp : K0.Pairwise (· < ·)) (sB : Sup K0 B) (sg : Sup K0 g) {k p : Int} (h : B k ≠ f k) :
    confP by_ (dif K0 B g) ⟨p, B k, f k⟩ = if B k = g k then false else inConf by_ ⟨p, B k, f k⟩ ⟨rk B K0 k, B k, g k⟩ := by
  unfold confP
  rw [key_of hB hf h, findE_dif hB hg hp sB sg]
  by_cases h2 : B k = g k
  · rw [if_pos h2, if_pos h2]
  · rw [if_neg h2, if_neg h2]
theorem confl_none (hB : TbOk w B) (hf : TbOk w f) (hg : TbOk w g) (hp : K0.Pairwise (· < ·)) (sB : Sup K0 B) (sg : Sup K0 g)
    (h : ∀ k p q, B k ≠ f k → B k ≠ g k → inConf by_ ⟨p, B k, f k⟩ ⟨q, B k, g k⟩ = false) : conflM by_ (dif K0 B f) (dif K0 B g) = [] := by
  unfold conflM
  rw [List.map_eq_nil_iff, List.filter_eq_nil_iff]
  intro e he
  obtain ⟨k, hk, hne, rfl⟩ := dif_mem (w := w) hp he
  rw [confP_dif hB hf hg hp sB sg hne]
  by_cases h2 : B k = g k
  · rw [if_pos h2]
    decide
  · rw [if_neg h2, h k _ _ hne h2]
    decide
theorem confl_all (hB : TbOk w B) (hf : TbOk w f) (hg : TbOk w g) (hp : K0.Pairwise (· < ·)) (sB : Sup K0 B) (sg : Sup K0 g)
    (h : ∀ k p q, B k ≠ f k → B k ≠ g k ∧ inConf by_ ⟨p, B k, f k⟩ ⟨q, B k, g k⟩ = true) : conflM by_ (dif K0 B f) (dif K0 B g) = (dif K0 B f).map fun e => (e.p, e.key) := by
  unfold conflM
  rw [List.filter_eq_self.mpr]
  intro e he
  obtain ⟨k, hk, hne, rfl⟩ := dif_mem (w := w) hp he
  rw [confP_dif hB hf hg hp sB sg hne, if_neg (h k 0 0 hne).1]
  exact (h k _ _ hne).2
end
/-! ### moved -/
def withC (r a b : Rwv) : Rwv := (List.range r.length).map fun c => if (diffC a b).contains c then b.getD c 0 else r.getD c 0
def withO : Option Rwv → Option Rwv → Option Rwv → Option Rwv
  | some r, some a, some b => some (withC r a b)
  | _, _, _ => none
def movE (fs : List Ent) (e : Ent) : Ent := match findE fs e.key with
  | none => ⟨e.p + growB fs e.key, e.o, e.n⟩
  | some f => ⟨e.p + growB fs e.key, f.n, withO f.n e.o e.n⟩
def movM (es fs : List Ent) : List Ent := es.map (movE fs)
theorem movM_dif {w : Nat} {K0 : List Int} {B f g g' : Tb} (hB : TbOk w B) (hf : TbOk w f) (hg : TbOk w g) (hp : K0.Pairwise (· < ·)) (sB : Sup K0 B) (sg : Sup K0 g)
    (h : ∀ k, B k ≠ f k → (B k = g k → f k = g' k) ∧ (B k ≠ g k → withO (g k) (B k) (f k) = g' k)) (h2 : ∀ k, B k = f k ↔ g k = g' k) : movM (dif K0 B f) (dif K0 B g) = dif K0 g g' := by
  unfold movM
  rw [dif_eq (f := B) (g := f) hp, dif_eq (f := g) (g := g') hp, List.map_filterMap]
  refine fm_congr fun k hk => ?_
  by_cases e : B k = f k
  · rw [if_pos e, if_pos ((h2 k).mp e)]
    rfl
  · rw [if_neg e, if_neg (fun z => e ((h2 k).mpr z))]
    show some (movE _ _) = _
    unfold movE
    rw [key_of hB hf e, findE_dif hB hg hp sB sg, growB_dif hB hg]
    have ep : rk B K0 k + (rk g K0 k - rk B K0 k) = rk g K0 k := by omega
    by_cases e2 : B k = g k
    · rw [if_pos e2]
      show some (⟨rk B K0 k + (rk g K0 k - rk B K0 k), B k, f k⟩ : Ent) = _
      rw [ep, (h k e).1 e2, e2]
    · rw [if_neg e2]
      show some (⟨rk B K0 k + (rk g K0 k - rk B K0 k), g k, withO (g k) (B k) (f k)⟩ : Ent) = _
      rw [ep, (h k e).2 e2]
/-! ### changes shared out -/
def mix (a b : Rwv) (S : Nat → Bool) : Rwv := (List.range a.length).map fun c => if S c = true then b.getD c 0 else a.getD c 0
theorem mix_len {a b : Rwv} {S : Nat → Bool} : (mix a b S).length = a.length := by
  unfold mix
  rw [List.length_map, List.length_range]
theorem mix_get {a b : Rwv} {S : Nat → Bool} {c : Nat} (h : c < a.length) : (mix a b S)[c]? = some (if S c = true then b.getD c 0 else a.getD c 0) := by
  unfold mix
  rw [List.getElem?_map, List.getElem?_range h]
  rfl
theorem mix_getD {a b : Rwv} {S : Nat → Bool} {c : Nat} (h : c < a.length) : (mix a b S).getD c 0 = if S c = true then b.getD c 0 else a.getD c 0 := by
  rw [List.getD_eq_getElem?_getD, mix_get h]
  rfl
theorem get_getD {a : Rwv} {c : Nat} (h : c < a.length) : a[c]? = some (a.getD c 0) := by
  rw [List.getD_eq_getElem?_getD, List.getElem?_eq_getElem h]
  rfl
theorem row_ext {a b : Rwv} (hl : a.length = b.length) (h : ∀ c, c < a.length → a.getD c 0 = b.getD c 0) : a = b := by
  refine List.ext_getElem? fun c => ?_
  by_cases hc : c < a.length
  · rw [get_getD hc, get_getD (by omega), h c hc]
  · rw [List.getElem?_eq_none (by omega), List.getElem?_eq_none (by omega)]
theorem diffC_mem {a b : Rwv} {c : Nat} (hl : a.length = b.length) : c ∈ diffC a b ↔ c < a.length ∧ a.getD c 0 ≠ b.getD c 0 := by
  unfold diffC
  rw [List.mem_filter, List.mem_range, decide_eq_true_eq]
  constructor
  · rintro ⟨h1, h2⟩
    refine ⟨h1, fun z => h2 ?_⟩
    rw [get_getD h1, get_getD (by omega), z]
  · rintro ⟨h1, h2⟩
    refine ⟨h1, fun z => h2 ?_⟩
    rw [get_getD h1, get_getD (by omega)] at z
    exact Option.some.inj z
theorem diffC_mix {a b : Rwv} {S : Nat → Bool} {c : Nat} : c ∈ diffC a (mix a b S) ↔ c < a.length ∧ S c = true ∧ a.getD c 0 ≠ b.getD c 0 := by
  rw [diffC_mem mix_len.symm]
  constructor
  · rintro ⟨h1, h2⟩
    rw [mix_getD h1] at h2
    by_cases hs : S c = true
    · rw [if_pos hs] at h2
      exact ⟨h1, hs, h2⟩
    · rw [if_neg hs] at h2
      exact absurd rfl h2
  · rintro ⟨h1, h2, h3⟩
    refine ⟨h1, ?_⟩
    rw [mix_getD h1, if_pos h2]
    exact h3
theorem mix_eq {a b : Rwv} {S : Nat → Bool} : a = mix a b S ↔ ∀ c, c < a.length → S c = true → a.getD c 0 = b.getD c 0 := by
  constructor
  · intro h c hc hs
    have e := congrArg (fun r : Rwv => r.getD c 0) h
    simp only [mix_getD hc, if_pos hs] at e
    exact e
  · intro h
    refine row_ext mix_len.symm fun c hc => ?_
    rw [mix_getD hc]
    by_cases hs : S c = true
    · rw [if_pos hs, h c hc hs]
    · rw [if_neg hs]
theorem withC_mix {a b : Rwv} {S I : Nat → Bool} : withC (mix a b S) a (mix a b I) = mix a b fun c => S c || I c := by
  unfold withC
  rw [mix_len]
  conv => rhs; unfold mix
  refine List.map_congr_left fun c hc => ?_
  rw [List.mem_range] at hc
  rw [mix_getD hc, mix_getD hc]
  show _ = if (S c || I c) = true then _ else _
  by_cases h : (diffC a (mix a b I)).contains c = true
  · rw [if_pos h]
    obtain ⟨_, h2, _⟩ := diffC_mix.mp (List.contains_iff_mem.mp h)
    rw [if_pos h2, h2, Bool.or_true, if_pos rfl]
  · rw [if_neg h]
    by_cases hs : S c = true
    · rw [if_pos hs, hs, Bool.true_or, if_pos rfl]
    · rw [if_neg hs]
      by_cases hi : I c = true
      · have e : a.getD c 0 = b.getD c 0 := Classical.byContradiction fun z => h (List.contains_iff_mem.mpr (diffC_mix.mpr ⟨hc, hi, z⟩))
        rw [hi, Bool.or_true, if_pos rfl, e]
      · rw [Bool.not_eq_true] at hs hi
        rw [hs, hi, if_neg (by decide)]
def both (col : Bool) : Option Rwv → Option Rwv → Option (Rwv × Rwv)
  | some a, some b => if col = true then some (a, b) else none
  | _, _ => none
theorem both_some {col : Bool} {x y : Option Rwv} {p : Rwv × Rwv} (h : both col x y = some p) : col = true ∧ x = some p.1 ∧ y = some p.2 := by
  cases x with
  | none => cases h
  | some a =>
    cases y with
    | none => cases h
    | some b =>
      have h : (if col = true then some (a, b) else none) = some p := h
      by_cases hc : col = true
      · rw [if_pos hc] at h
        rw [← Option.some.inj h]
        exact ⟨hc, rfl, rfl⟩
      · rw [if_neg hc] at h
        cases h
def asnE (col : Bool) (ow : Nat → Nat) (x y : Option Rwv) (S : Nat → Bool) : Option Rwv := match both col x y with
  | some (a, b) => some (mix a b fun c => S (ow c))
  | none => if S (ow 0) = true then y else x
theorem asnE_some {col : Bool} {ow : Nat → Nat} {x y : Option Rwv} {S : Nat → Bool} {p : Rwv × Rwv} (h : both col x y = some p) : asnE col ow x y S = some (mix p.1 p.2 fun c => S (ow c)) := by
  unfold asnE
  rw [h]
theorem asnE_none {col : Bool} {ow : Nat → Nat} {x y : Option Rwv} {S : Nat → Bool} (h : both col x y = none) : asnE col ow x y S = if S (ow 0) = true then y else x := by
  unfold asnE
  rw [h]
def asn (col : Bool) (own : Int → Nat → Nat) (B T : Tb) (S : Nat → Bool) : Tb := fun k => asnE col (own k) (B k) (T k) S
section
variable {col : Bool} {ow : Nat → Nat} {own : Int → Nat → Nat} {x y : Option Rwv} {S : Nat → Bool} {B T : Tb} {w : Nat} {i : Nat} {by_ : Str}
theorem asnE_no (h : ∀ j, S j = false) : asnE col ow x y S = x := by
  cases e : both col x y with
  | none => rw [asnE_none e, if_neg (by rw [h]; decide)]
  | some p =>
    rw [asnE_some e, (both_some e).2.1]
    congr 1
    exact (mix_eq.mpr fun c _ z => by rw [h] at z; cases z).symm
theorem asnE_all (hx : ORowOk w x) (hy : ORowOk w y) (h : ∀ c, S (ow c) = true) : asnE col ow x y S = y := by
  cases e : both col x y with
  | none => rw [asnE_none e, if_pos (h 0)]
  | some p =>
    obtain ⟨_, e1, e2⟩ := both_some e
    rw [asnE_some e, e2]
    rw [e1] at hx
    rw [e2] at hy
    have l1 : p.1.length = w := hx
    have l2 : p.2.length = w := hy
    congr 1
    refine row_ext (by rw [mix_len]; omega) fun c hc => ?_
    rw [mix_len] at hc
    rw [mix_getD hc, if_pos (h c)]
theorem asnE_same (h : x = y) : asnE col ow x y S = x := by
  cases e : both col x y with
  | none => rw [asnE_none e, h, ite_self]
  | some p =>
    obtain ⟨_, e1, e2⟩ := both_some e
    have e3 : p.1 = p.2 := by
      rw [e1, e2] at h
      exact Option.some.inj h
    rw [asnE_some e, e1, ← e3]
    congr 1
    exact (mix_eq.mpr fun _ _ _ => rfl).symm
theorem asn_ok (hw : 1 ≤ w) (hB : TbOk w B) (hT : TbOk w T) : TbOk w (asn col own B T S) := fun k r h => by
  have h' : asnE col (own k) (B k) (T k) S = some r := h
  cases e : both col (B k) (T k) with
  | none =>
    rw [asnE_none e] at h'
    by_cases hs : S (own k 0) = true
    · rw [if_pos hs] at h'
      exact hT k r h'
    · rw [if_neg hs] at h'
      exact hB k r h'
  | some p =>
    obtain ⟨_, e1, e2⟩ := both_some e
    rw [asnE_some e] at h'
    obtain ⟨k1, l1⟩ := hB k _ e1
    obtain ⟨k2, l2⟩ := hT k _ e2
    have l1' : p.1.length = w := l1
    have l2' : p.2.length = w := l2
    rw [← Option.some.inj h']
    refine ⟨?_, mix_len.trans l1⟩
    have hd : ∀ r : Rwv, Rwv.key r = r.getD 0 0 := fun r => by cases r <;> rfl
    rw [hd, mix_getD (by omega), ← hd, ← hd, k1, k2, ite_self]
theorem asn_sup {K0 : List Int} (hB : Sup K0 B) (hT : Sup K0 T) : Sup K0 (asn col own B T S) := fun k hk => by
  show asnE _ _ _ _ _ = none
  rw [asnE_same ((hB k hk).trans (hT k hk).symm), hB k hk]
theorem asnE_step (hi : S i = false) (h : x ≠ asnE col ow x y fun j => j == i) :
    (x = asnE col ow x y S → (asnE col ow x y fun j => j == i) = asnE col ow x y fun j => S j || j == i) ∧
    (x ≠ asnE col ow x y S → withO (asnE col ow x y S) x (asnE col ow x y fun j => j == i) = asnE col ow x y fun j => S j || j == i) := by
  cases e : both col x y with
  | none =>
    rw [asnE_none e] at h
    have ho : (ow 0 == i) = true := Classical.byContradiction fun z => h (by rw [if_neg z])
    have hs : S (ow 0) = false := by rw [eq_of_beq ho, hi]
    rw [asnE_none e, asnE_none e, asnE_none e, if_pos ho, hs, ho, if_neg (by decide), if_pos (by decide)]
    exact ⟨fun _ => rfl, fun z => absurd rfl z⟩
  | some p =>
    obtain ⟨_, e1, e2⟩ := both_some e
    rw [asnE_some e, asnE_some e, asnE_some e, e1]
    refine ⟨fun z => ?_, fun z => ?_⟩
    · have z2 := mix_eq.mp (Option.some.inj z)
      congr 1
      refine row_ext (by rw [mix_len, mix_len]) fun c hc => ?_
      rw [mix_len] at hc
      rw [mix_getD hc, mix_getD hc]
      by_cases ho : (ow c == i) = true
      · rw [if_pos ho, ho, Bool.or_true, if_pos rfl]
      · rw [if_neg ho]
        by_cases hs : S (ow c) = true
        · rw [hs, Bool.true_or, if_pos rfl, z2 c hc hs]
        · rw [Bool.not_eq_true] at ho hs
          rw [ho, hs, if_neg (by decide)]
    · show some (withC _ _ _) = _
      rw [withC_mix]
theorem asnE_iff (hi : S i = false) : (x = asnE col ow x y fun j => j == i) ↔ asnE col ow x y S = asnE col ow x y fun j => S j || j == i := by
  cases e : both col x y with
  | none =>
    rw [asnE_none e, asnE_none e, asnE_none e]
    by_cases ho : (ow 0 == i) = true
    · have hs : S (ow 0) = false := by rw [eq_of_beq ho, hi]
      rw [if_pos ho, hs, ho, if_neg (by decide), if_pos (by decide)]
    · rw [if_neg ho]
      rw [Bool.not_eq_true] at ho
      rw [ho, Bool.or_false]
      exact ⟨fun _ => rfl, fun _ => rfl⟩
  | some p =>
    obtain ⟨_, e1, e2⟩ := both_some e
    rw [asnE_some e, asnE_some e, asnE_some e, e1]
    constructor
    · intro z
      have z2 := mix_eq.mp (Option.some.inj z)
      congr 1
      refine row_ext (by rw [mix_len, mix_len]) fun c hc => ?_
      rw [mix_len] at hc
      rw [mix_getD hc, mix_getD hc]
      by_cases ho : (ow c == i) = true
      · have hs : S (ow c) = false := by rw [eq_of_beq ho, hi]
        rw [hs, ho, if_neg (by decide), if_pos (by decide), z2 c hc ho]
      · rw [Bool.not_eq_true] at ho
        rw [ho, Bool.or_false]
    · intro z
      congr 1
      refine mix_eq.mpr fun c hc ho => ?_
      have hs : S (ow c) = false := by rw [eq_of_beq ho, hi]
      have z3 := congrArg (fun r : Rwv => r.getD c 0) (Option.some.inj z)
      simp only [mix_getD hc, hs, ho] at z3
      rw [if_neg (by decide), if_pos (by decide)] at z3
      exact z3
theorem inConf_col {a b c d : Rwv} {p q : Int} (h : ¬ ByRow by_) : inConf by_ ⟨p, some a, some b⟩ ⟨q, some c, some d⟩ = (diffC a b).any fun x => (diffC c d).contains x := by
  unfold inConf
  rw [decide_eq_false h, Bool.false_or]
theorem asnE_apart (hc : col = !decide (ByRow by_)) (hi : S i = false) {p q : Int} (h : x ≠ asnE col ow x y fun j => j == i) (h2 : x ≠ asnE col ow x y S) :
    inConf by_ ⟨p, x, asnE col ow x y fun j => j == i⟩ ⟨q, x, asnE col ow x y S⟩ = false := by
  cases e : both col x y with
  | none =>
    exfalso
    rw [asnE_none e] at h h2
    have ho : (ow 0 == i) = true := Classical.byContradiction fun z => h (by rw [if_neg z])
    have hs : S (ow 0) = false := by rw [eq_of_beq ho, hi]
    exact h2 (by rw [hs, if_neg (by decide)])
  | some p =>
    obtain ⟨e0, e1, e2⟩ := both_some e
    have hb : ¬ ByRow by_ := fun z => by
      rw [e0, decide_eq_true z] at hc
      cases hc
    rw [asnE_some e, asnE_some e, e1, inConf_col hb, List.any_eq_false]
    intro c hm
    obtain ⟨_, ho, _⟩ := diffC_mix.mp hm
    have hs : S (ow c) = false := by rw [eq_of_beq ho, hi]
    intro z
    obtain ⟨_, z2, _⟩ := diffC_mix.mp (List.contains_iff_mem.mp z)
    rw [hs] at z2
    cases z2
theorem asnE_twice (hc : col = !decide (ByRow by_)) (hi : S i = true) {p q : Int} (h : x ≠ asnE col ow x y fun j => j == i) :
    x ≠ asnE col ow x y S ∧ inConf by_ ⟨p, x, asnE col ow x y fun j => j == i⟩ ⟨q, x, asnE col ow x y S⟩ = true := by
  cases e : both col x y with
  | none =>
    rw [asnE_none e] at h
    have ho : (ow 0 == i) = true := Classical.byContradiction fun z => h (by rw [if_neg z])
    rw [if_pos ho] at h
    have hs : S (ow 0) = true := by rw [eq_of_beq ho, hi]
    rw [asnE_none e, asnE_none e, if_pos ho, if_pos hs]
    refine ⟨h, inConf_half ?_⟩
    by_cases hb : ByRow by_
    · exact .inl hb
    · refine .inr (.inl ?_)
      rw [decide_eq_false hb] at hc
      rw [hc] at e
      cases x with
      | none => exact .inl rfl
      | some a =>
        cases y with
        | none => exact .inr rfl
        | some b => cases e
  | some p =>
    obtain ⟨e0, e1, e2⟩ := both_some e
    have hb : ¬ ByRow by_ := fun z => by
      rw [e0, decide_eq_true z] at hc
      cases hc
    rw [asnE_some e, e1] at h
    have h' : ∃ c, c < p.1.length ∧ (ow c == i) = true ∧ p.1.getD c 0 ≠ p.2.getD c 0 := Classical.byContradiction fun z => h (by
      congr 1
      exact mix_eq.mpr fun c h1 h2 => Classical.byContradiction fun h3 => z ⟨c, h1, h2, h3⟩)
    obtain ⟨c, h1, h2, h3⟩ := h'
    have hs : S (ow c) = true := by rw [eq_of_beq h2, hi]
    rw [asnE_some e, asnE_some e, e1]
    refine ⟨fun z => h3 (mix_eq.mp (Option.some.inj z) c h1 hs), ?_⟩
    rw [inConf_col hb, List.any_eq_true]
    exact ⟨c, diffC_mix.mpr ⟨h1, h2, h3⟩, List.contains_iff_mem.mpr (diffC_mix.mpr ⟨h1, hs, h3⟩)⟩
end
end Pl

end

section
set_option Elab.async false
set_option linter.all false
set_option maxRecDepth 100000
set_option maxHeartbeats 4000000
/-! PlZs: set(xs), xs a list of ints; list(range(..)). -/
namespace Pl
open PySem PySem.Spec PyProof.Rows L2
/-- the set that set() makes -/
abbrev oS (w : World) : Obj := { cls := .type "set", dict := none, data := .set #[] 0 (.fresh 0 0 (!w.params.followText "set-order")) }
section
variable {P : Program} {w : World} {A : Around} {E : Value → Shared → Prop} {s : Shared}
set_option maxHeartbeats 8000000 in
theorem set_of_list {l : Addr} {its : Array Value} (ns : List Int) {Q : Value → Shared → Prop} (hd : A.handled = none) (pl : s.heap.IsList l its) (ia : IntsAre its.toList ns) (few : ns.length + 1 < scanBound)
    (fin : ∀ (h' : Heap) (tk c : Nat), SetR w h' s.heap.objs.size (fun j => decide (j ∈ ns)) c → c ≤ ns.length → (∀ b o, s.heap.get? b = some o → h'.get? b = some o) → Q (.ref s.heap.objs.size) { s with heap := h', toks := tk }) :
    wpAny (model P w) A (call (.type "set") [.ref l]) Q E s := by
  have sz : its.size = ns.length := by rw [← ia.length, Array.length_toList]
  have ⟨mc, ml, mm⟩ := F.called_set.mro
  have f1 := F.called_set.made; have f2 := F.called_set.sub
  apply wpAny_call; apply codeAny_of_tree
  show wpAny _ _ (callAny (Value.type "set") _) _ _ _
  refine wpAny_pure (And.intro (Code.quiet_builtin _ (by decide +kernel)) (codeAny_builtin F.entry_type_call ?_))
  rw [Around.under_plain (weight_type_call_type "set" [Value.ref l] []) rfl]
  have f3 := F.called_set.notType; have f4 := F.called_set.canCreate; have f5 := F.typeCall_set_1 (Value.ref l)
  repeat (any_goals (first | wp_step | assumption))
  refine codeAny_mono (code_set_led1 (.ref l) (E := E) (Q₁ := fun ob t => ob = .ref s.heap.objs.size ∧ t = { s with heap := s.heap.push (oS w) }) (And.intro rfl rfl)) fun r t ht => ?_
  match r, ht with
  | .error _, ht => exact ht
  | .ok (.ret ob), ht =>
    obtain ⟨e1, e2⟩ := ht
    subst e1 e2
    have g1 : (s.heap.push (oS w)).get? s.heap.objs.size = some (oS w) := Heap.get?_push_size _ rfl
    have g2 : Shared.TypeIs { s with heap := s.heap.push (oS w) } (Value.ref s.heap.objs.size) "set" := Exists.intro _ (And.intro g1 rfl)
    have g3 := F.called_set.init.lookup; have g4 := F.called_set.init.bind (Value.ref s.heap.objs.size)
    repeat (any_goals (first | wp_step | assumption))
    refine codeAny_mono (codeAny_call_builtin (R := wants (fun r t => r = .none ∧ ∃ h' tk c, t = { s with heap := h', toks := tk } ∧ SetR w h' s.heap.objs.size (fun j => decide (j ∈ ns)) c ∧ c ≤ ns.length ∧
        ∀ b o, s.heap.get? b = some o → h'.get? b = some o) E) F.called_set.init.plain F.entry_set_init (check_set_init_1 g2 ?_)) fun r2 t2 ht2 => ?_
    · obtain ⟨⟨cl, di, da, sl⟩, ho, hc, nl, hda⟩ := pl
      simp only at hc hda
      subst hc hda
      have k1 : (s.heap.push (oS w)).get? l = some { cls := .type "list", dict := di, data := .seq its nl, slots := sl } := Heap.get?_push_of_some _ ho
      have k2 := F.sub_list_set; have k3 := F.sub_list_frozenset
      have k4 : (Value.type "list" == Value.type "dict") = false := by decide
      have k5 : (s.heap.push (oS w)).IsList l its := ⟨_, k1, rfl, nl, rfl⟩
      unfold Builtin.«set.__init__» noKeywords Builtin.Frozenset.updateFrom
      generalize hG : pyIter = G
      wp_walk
      subst hG
      refine wpAny_pyIter_list k5 (wpAny_bind (wpAny_runValue ?_))
      have k6 : l < s.heap.objs.size := Heap.lt_size ho
      have k7 : A.in1.in1.in1.handled = none := by simp [hd]
      have k8 : l ≠ (s.heap.push (oS w)).objs.size := by
        rw [Heap.size_push]
        exact Nat.ne_of_lt (Nat.lt_succ_of_lt k6)
      have k9 : s.heap.objs.size ∉ [(s.heap.push (oS w)).objs.size, l] := by
        rw [Heap.size_push]
        intro z
        rcases List.mem_cons.mp z with z | z
        · exact absurd z (Nat.ne_of_lt (Nat.lt_succ_self _))
        · exact absurd (List.mem_singleton.mp z) (Nat.ne_of_gt k6)
      have k10 : ∀ (i : Nat) (v : Value), its[i]? = some v → ∃ k t, ns[i]? = some k ∧ v = .int k t := fun i v hv => by
        have hi : i < ns.length := by
          rw [← sz]
          exact (Array.getElem?_eq_some_iff.mp hv).1
        obtain ⟨t, e⟩ := IntsAre.int_at ia i v (by rw [Array.getElem?_toList]; exact hv)
        refine ⟨_, t, List.getElem?_eq_getElem hi, ?_⟩
        rw [e, List.getD_eq_getElem?_getD, List.getElem?_eq_getElem hi]
        try rfl
      refine set_update_ints ((Walks.list k7 _ l k8 its).toS) s.heap.objs.size k9 ns sz few k10 (its.size - 0) 0 _ (by omega) (Nat.zero_le _) ⟨⟨_, Heap.get?_push_size _ rfl, rfl, rfl⟩, k5.push _⟩ ⟨0, Nat.le_refl 0, setR_new_at ?_⟩ ?_
      · exact Heap.get?_push_of_some _ g1
      · rintro ⟨h', gg, dd, tk', os'⟩ c' hm hc' hS'
        have e1 : gg = s.gens := hm.gens
        have e2 : dd = s.drawn := hm.drawn
        have e3 : os' = s.os := hm.os
        subst e1 e2 e3
        show wpAny _ _ _ _ _ _
        refine wpAny_pure ?_
        show wpAny _ _ (ret Value.none) _ _ _
        refine wpAny_pure ⟨rfl, h', tk', c', rfl, hS', by omega, fun b o e => ?_⟩
        have lt := Heap.lt_size e
        refine hm.heap b o (fun z => ?_) (Heap.get?_push_of_some _ (Heap.get?_push_of_some _ e))
        rcases List.mem_cons.mp z with z | z
        · exact Nat.ne_of_lt lt z
        · have z2 := List.mem_singleton.mp z
          rw [Heap.size_push] at z2
          exact Nat.ne_of_lt (Nat.lt_succ_of_lt lt) z2
    · match r2, ht2 with
      | .error _, ht2 => exact ht2
      | .ok (.ret v), ht2 =>
        obtain ⟨e1, h', tk, c', e2, a1, a2, a3⟩ := ht2
        subst e1 e2
        repeat (any_goals (first | wp_step | assumption))
        exact fin _ _ _ a1 a2 a3
      | .ok .next, ht2 => exact ht2.elim
      | .ok .brk, ht2 => exact ht2.elim
      | .ok .cont, ht2 => exact ht2.elim
  | .ok .next, ht => exact ht.elim
  | .ok .brk, ht => exact ht.elim
  | .ok .cont, ht => exact ht.elim
end
/-- set(xs), xs a list of ints -/
def rSetOfI (K : PySem.W.Frag) (w : World) : List V → Hp → VK → Prop := fun xs H Q => ∃ (l : Addr) (ns : List Int), xs = [V.ref l] ∧ SqL K H l (vis ns) ∧ ns.length < 64 ∧
  ∀ a c, H a = none → c ≤ ns.length → Q (.ref a) (upd H a (SetO w a (fun j => decide (j ∈ ns)) c))
theorem cr_setOfI {X : Cx} (hc : X.calm = true) : CallR X (.type "set") (rSetOfI X.K X.w) := by
  intro pins s σ H xs us Q I r h
  obtain ⟨l, ns, rfl, hl, hz, q⟩ := h
  rw [Vals.ref1 r]
  obtain ⟨its, rv, pl, _⟩ := I.list hl
  refine set_of_list ns (I.ok.hd hc) pl.isList (by simpa using ints_of_vals rv) (by unfold scanBound; omega) fun h' tk c R hcn k => ?_
  exact ⟨.ref s.heap.objs.size, _, I.laid (t' := tk) k (Nat.le_refl _) (setO_new R), rfl, q _ c (I.hok.fresh (Nat.le_refl _)) hcn⟩
end Pl

end

section
set_option Elab.async false
set_option linter.all false
set_option maxRecDepth 100000
set_option maxHeartbeats 4000000
/-! PlZt: x + y by an own __add__; isinstance of an own class with slots. -/
namespace Pl
open PySem PySem.Spec PyProof.Rows L2 Evl
structure IsiF (K : Fg) (C : Addr) : Prop where
  isi : SlX.SIsi K C
  sf : PySem.W.selfFirst K C = true
  kt : PySem.W.kitOne K (.ref C) (.ref C) = some true
def isiB (K : Fg) (C : Addr) : Bool := He.eqO (PySem.W.findIn K (.ref C) "__class__") (some (some (.builtin "object.__class__"))) && (He.eqO (PySem.W.specialIn K (.builtin "object.__class__") "__get__") (some (some (.builtin "getset_descriptor.__get__"))) &&
  (decide (PySem.W.takesIn K (.builtin "object.__class__") = some true) && (decide (PySem.W.mroIn K C (.type "object") = some true) && (PySem.W.selfFirst K C && decide (PySem.W.kitOne K (.ref C) (.ref C) = some true)))))
theorem isiB_ok {K : Fg} {C : Addr} (c : isiB K C = true) : IsiF K C := by
  obtain ⟨a, c⟩ := He.ba c
  obtain ⟨b, c⟩ := He.ba c
  obtain ⟨d, c⟩ := He.ba c
  obtain ⟨e, c⟩ := He.ba c
  obtain ⟨f, g⟩ := He.ba c
  exact ⟨⟨He.eqO_ok a, He.eqO_ok b, of_decide_eq_true d, of_decide_eq_true e⟩, f, of_decide_eq_true g⟩
def tAddS (C : Addr) (sp : Sp) (E : L2.St → XK) (ta tb : TE) : TE := fun σ H Q => ta σ H fun x H1 => tb σ H1 fun y H2 => ∃ a dx vs b dy ws, x = .ref a ∧ y = .ref b ∧ SlX.Slt H2 a C dx vs ∧ SlX.Slt H2 b C dy ws ∧ sp [x, y] H2 Q (E σ)
section
variable {X : Cx} {ea eb : Expr} {ta tb : TE} {C : Addr} {sp : Sp} {E : L2.St → XK} {k : Nat} {pos : Pos}
theorem pe_addS (M : MtS X.prog X.w X.K X.mg X.base k C "__add__" sp) (sf : PySem.W.selfFirst X.K C = true) (hr : Room k X.A) (hx : ∀ σ, PassesAt (L2.CX X.prog X.w) X σ (E σ)) (ha : PE X ea ta) (hb : PE X eb tb) : PE X (.BinOp ea .Add eb pos) (tAddS C sp E ta tb) := by
  obtain ⟨c, g, hm, F⟩ := M
  refine ⟨fun pins s σ H Q I h => ?_⟩
  refine wpAny_BinOp (binT ha hb I h fun v u s2 x y H2 I2 rx ry q => ?_)
  obtain ⟨a, dx, vs, b, dy, ws, rfl, rfl, h1, h2, q⟩ := q
  cases (show v = Value.ref a from rx)
  cases (show u = Value.ref b from ry)
  obtain ⟨sl, od, _, J, _⟩ := SlX.slt_inst I2 h1
  obtain ⟨sl', od', _, J', _⟩ := SlX.slt_inst I2 h2
  obtain ⟨m, hF⟩ := I2.fr
  refine PySem.W.binop_K (op := .Add) hF I2.ok.mod.kin J J'.type sf hm.at_ hm.fn ?_
  refine wpAny_mono (run_dfA (us := [.ref a, .ref b]) (vs := [.ref a, .ref b]) (ws := []) (zs := []) F hr (hx σ) I2 (.cons rfl (.cons rfl .nil)) .nil rfl q) (fun w s' z => ?_) fun _ _ x => x
  obtain ⟨z', H', I', rz, qz⟩ := z
  exact SlX.cmpback rz ⟨z', H', I', rz, qz⟩
end
end Pl

end

section
set_option Elab.async false
set_option linter.all false
set_option maxRecDepth 100000
set_option maxHeartbeats 2000000
/-! PlZu: comprehensions that only add, some of the items left out. -/
namespace Pl
open PySem PySem.Spec PyProof.Rows L2 Evl
section
variable {K : Fg} {a D : Addr} {xs : List V} {σ : L2.St} {H1 : Hp} {g : TG} {tt : TT} {te : TE} {vs : List Nat} {β : Type} {m : Nat → Option β} {R : V → β → Hp → Prop} {Qd : Hp → Prop}
def FmP (H1 : Hp) (D : Addr) (m : Nat → Option β) (R : V → β → Hp → Prop) (i : Nat) (H : Hp) : Prop := Ex H1 H ∧ ∃ ys, H D = some (.lst ys) ∧ ys.length ≤ i ∧ All2 (fun y b => R y b H) ys ((List.range i).filterMap m)
theorem fm_start : FmP H1 D m R 0 (upd H1 D (.lst [])) → True := fun _ => trivial
theorem fm_zero (hD : H1 D = none) : FmP H1 D m R 0 (upd H1 D (.lst [])) := ⟨Ex.new hD, [], upd_same, Nat.le_refl _, .nil⟩
theorem fm_snoc (i : Nat) : (List.range (i + 1)).filterMap m = (List.range i).filterMap m ++ (match m i with | none => [] | some b => [b]) := by
  rw [List.range_succ, List.filterMap_append]
  congr 1
  try rfl
  try (cases m i <;> rfl)
theorem fm_no {i : Nat} {H H3 : Hp} (p : FmP H1 D m R i H) (hR : ∀ y b H H', ExN H H' → R y b H → R y b H') (e : Ex H H3) (hm : m i = none) : FmP H1 D m R (i + 1) H3 := by
  obtain ⟨e1, ys, hy, hl, hr⟩ := p
  refine ⟨e1.trans e, ys, e _ _ hy, by omega, ?_⟩
  rw [fm_snoc, hm, List.append_nil]
  exact hr.imp fun y b => hR y b _ _ (ExN.of e)
theorem fm_yes {i : Nat} {H H3 : Hp} {y : V} {b : β} (p : FmP H1 D m R i H) (hD : H1 D = none) (hz : i < sizeLine) (hR : ∀ y b H H', ExN H H' → R y b H → R y b H') (e : Ex H H3) (hm : m i = some b) (hy : R y b H3) :
    ∃ acc, H3 D = some (.lst acc) ∧ acc.length < sizeLine ∧ FmP H1 D m R (i + 1) (upd H3 D (.lst (acc ++ [y]))) := by
  obtain ⟨e1, ys, hD1, hl, hr⟩ := p
  have hD3 := e _ _ hD1
  have en : ExN H3 (upd H3 D (.lst (ys ++ [y]))) := ExN.list hD3
  refine ⟨ys, hD3, by omega, Ex.mut (e1.trans e) hD, ys ++ [y], upd_same, by rw [List.length_append]; exact Nat.succ_le_succ hl, ?_⟩
  rw [fm_snoc, hm]
  exact (hr.imp fun z c h => hR z c _ _ ((ExN.of e).trans en) h).app (.cons (hR y b _ _ en hy) .nil)
theorem lc_fmL (hx : SqL K H1 a xs) (hz : xs.length < sizeLine) (hD : H1 D = none) (hR : ∀ y b H H', ExN H H' → R y b H → R y b H')
    (hs : ∀ i x H2 (Qy : VK) (Qn : Hp → Prop), xs[i]? = some x → Ex H1 H2 → (∀ y b H3, Ex H2 H3 → m i = some b → R y b H3 → Qy y H3) → (∀ H3, Ex H2 H3 → m i = none → Qn H3) →
      g x (wipe σ vs) H2 fun σ2 H3 => wipe σ2 vs = wipe σ vs ∧ tt σ2 H3 fun b H4 => if b = true then te σ2 H4 Qy else Qn H4)
    (q : ∀ ys H2, Ex H1 H2 → H2 D = some (.lst ys) → ys.length ≤ xs.length → All2 (fun y b => R y b H2) ys ((List.range xs.length).filterMap m) → Qd H2) :
    ∃ W : Nat → Nat → Hp → Prop, (∃ m, W 0 m (upd H1 D (.lst []))) ∧ ∀ i m H, W i m H →
      ((Itl K a).stop i H ∧ Qd H) ∨ ((Itl K a).go i H ∧ ∃ Nx : Hp → Prop, (∀ H', Nx H' → ∃ m', m' < m ∧ W (i + 1) m' H') ∧ ∀ x H', (Itl K a).yld i H x H' → g x (wipe σ vs) H' fun σ2 H2 => wipe σ2 vs = wipe σ vs ∧ tt σ2 H2 fun b H3 =>
        if b = true then te σ2 H3 fun y H4 => ∃ acc, H4 D = some (.lst acc) ∧ acc.length < sizeLine ∧ Nx (upd H4 D (.lst (acc ++ [y]))) else Nx H3) :=
  lc_list (xs := xs) (FmP H1 D m R) (fm_zero hD) (fun i H _ p => ex_l p.1 hx)
    (fun i x H hi p => hs i x H _ _ hi p.1 (fun y b H3 e hm hy => fm_yes p hD (by have := (List.getElem?_eq_some_iff.mp hi).1; omega) hR e hm hy) fun H3 e hm => fm_no p hR e hm)
    fun H p => by
      obtain ⟨e1, ys, hy, hl, hr⟩ := p
      exact q ys H e1 hy hl hr
theorem lc_fmT (hx : SqT K H1 a xs) (hz : xs.length < sizeLine) (hD : H1 D = none) (hR : ∀ y b H H', ExN H H' → R y b H → R y b H')
    (hs : ∀ i x H2 (Qy : VK) (Qn : Hp → Prop), xs[i]? = some x → Ex H1 H2 → (∀ y b H3, Ex H2 H3 → m i = some b → R y b H3 → Qy y H3) → (∀ H3, Ex H2 H3 → m i = none → Qn H3) →
      g x (wipe σ vs) H2 fun σ2 H3 => wipe σ2 vs = wipe σ vs ∧ tt σ2 H3 fun b H4 => if b = true then te σ2 H4 Qy else Qn H4)
    (q : ∀ ys H2, Ex H1 H2 → H2 D = some (.lst ys) → ys.length ≤ xs.length → All2 (fun y b => R y b H2) ys ((List.range xs.length).filterMap m) → Qd H2) :
    ∃ W : Nat → Nat → Hp → Prop, (∃ m, W 0 m (upd H1 D (.lst []))) ∧ ∀ i m H, W i m H →
      ((Itt K a).stop i H ∧ Qd H) ∨ ((Itt K a).go i H ∧ ∃ Nx : Hp → Prop, (∀ H', Nx H' → ∃ m', m' < m ∧ W (i + 1) m' H') ∧ ∀ x H', (Itt K a).yld i H x H' → g x (wipe σ vs) H' fun σ2 H2 => wipe σ2 vs = wipe σ vs ∧ tt σ2 H2 fun b H3 =>
        if b = true then te σ2 H3 fun y H4 => ∃ acc, H4 D = some (.lst acc) ∧ acc.length < sizeLine ∧ Nx (upd H4 D (.lst (acc ++ [y]))) else Nx H3) :=
  lc_tup (xs := xs) (FmP H1 D m R) (fm_zero hD) (fun i H _ p => ex_t p.1 hx)
    (fun i x H hi p => hs i x H _ _ hi p.1 (fun y b H3 e hm hy => fm_yes p hD (by have := (List.getElem?_eq_some_iff.mp hi).1; omega) hR e hm hy) fun H3 e hm => fm_no p hR e hm)
    fun H p => by
      obtain ⟨e1, ys, hy, hl, hr⟩ := p
      exact q ys H e1 hy hl hr
theorem lc_fmR {n : Nat} (hz : n < sizeLine) (hD : H1 D = none) (hR : ∀ y b H H', ExN H H' → R y b H → R y b H')
    (hs : ∀ i H2 (Qy : VK) (Qn : Hp → Prop), i < n → Ex H1 H2 → (∀ y b H3, Ex H2 H3 → m i = some b → R y b H3 → Qy y H3) → (∀ H3, Ex H2 H3 → m i = none → Qn H3) →
      g (.int (i : Nat)) (wipe σ vs) H2 fun σ2 H3 => wipe σ2 vs = wipe σ vs ∧ tt σ2 H3 fun b H4 => if b = true then te σ2 H4 Qy else Qn H4)
    (q : ∀ ys H2, Ex H1 H2 → H2 D = some (.lst ys) → ys.length ≤ n → All2 (fun y b => R y b H2) ys ((List.range n).filterMap m) → Qd H2) :
    ∃ W : Nat → Nat → Hp → Prop, (∃ m, W 0 m (upd H1 D (.lst []))) ∧ ∀ i m H, W i m H →
      ((Itr 0 n).stop i H ∧ Qd H) ∨ ((Itr 0 n).go i H ∧ ∃ Nx : Hp → Prop, (∀ H', Nx H' → ∃ m', m' < m ∧ W (i + 1) m' H') ∧ ∀ x H', (Itr 0 n).yld i H x H' → g x (wipe σ vs) H' fun σ2 H2 => wipe σ2 vs = wipe σ vs ∧ tt σ2 H2 fun b H3 =>
        if b = true then te σ2 H3 fun y H4 => ∃ acc, H4 D = some (.lst acc) ∧ acc.length < sizeLine ∧ Nx (upd H4 D (.lst (acc ++ [y]))) else Nx H3) :=
  lc_range (lo := 0) (n := n) (FmP H1 D m R) (fm_zero hD)
    (fun i H hi p => by
      rw [Int.zero_add]
      exact hs i H _ _ hi p.1 (fun y b H3 e hm hy => fm_yes p hD (by omega) hR e hm hy) fun H3 e hm => fm_no p hR e hm)
    fun H p => by
      obtain ⟨e1, ys, hy, hl, hr⟩ := p
      exact q ys H e1 hy hl hr
end
/-- the indices' map is the list's -/
theorem fm_list {α β : Type} {f : α → Option β} : ∀ {l : List α}, ((List.range l.length).filterMap fun i => (l[i]?).bind f) = l.filterMap f
  | [] => rfl
  | x :: l => by
    rw [List.length_cons, List.range_succ_eq_map, List.filterMap_cons, List.filterMap_cons, List.filterMap_map]
    have e := fm_list (f := f) (l := l)
    have e2 : (List.range l.length).filterMap ((fun i => ((x :: l)[i]?).bind f) ∘ Nat.succ) = l.filterMap f := by
      rw [← e]
      refine fm_congr fun i _ => ?_
      show (((x :: l)[i + 1]?).bind f) = _
      rw [List.getElem?_cons_succ]
    rw [e2]
    rfl
theorem fm_filter {α : Type} {p : α → Bool} : ∀ {l : List α}, (l.filterMap fun x => if p x = true then some x else none) = l.filter p
  | [] => rfl
  | x :: l => by
    rw [List.filterMap_cons, List.filter_cons, fm_filter (l := l)]
    by_cases h : p x = true
    · simp only [h, if_true]
    · simp only [h, if_false]
      rfl
theorem all2_eq {β : Type} {f : β → V} : ∀ {ys : List V} {bs : List β}, All2 (fun y b => y = f b) ys bs → ys = bs.map f
  | _, _, .nil => rfl
  | _, _, .cons h t => by rw [h, all2_eq t, List.map_cons]
theorem fm_some {α β : Type} {f : α → β} : ∀ {l : List α}, (l.filterMap fun x => some (f x)) = l.map f
  | [] => rfl
  | x :: l => by
    rw [List.filterMap_cons, List.map_cons, fm_some (l := l)]
theorem all2_map {α β γ : Type} {R : α → γ → Prop} {f : β → γ} : ∀ {xs : List α} {l : List β}, All2 (fun x b => R x (f b)) xs l → All2 R xs (l.map f)
  | _, _, .nil => .nil
  | _, _, .cons h t => .cons h (all2_map t)
end Pl

end

section
set_option Elab.async false
set_option linter.all false
set_option maxRecDepth 100000
set_option maxHeartbeats 2000000
/-! PlZv: def f(a, *r); rows as functions of the key; ranks. -/
namespace Pl
open PySem PySem.Spec PyProof.Rows L2 Evl
section
variable {P : Program} {w : World} {K : Fg} {mg : Str → Option Value} {base : Heap} {x qual : Str} {st : Stmt} {N : List Str} {p1 pv : Str} {k : Nat} {sp : Sp} {f : Addr} {fd : FuncData}
theorem fna_star0 {nmax : Nat} (F : FunD K x qual (defArgs st) (defBody st) (defScope st) [] [] f fd) (S : FnScope N [p1, pv] (defScope st))
    (hb : ∀ (kV doc pm : Value) (an : Option Addr) (cdv ct : Value) (a : Value) (rest : List Value), rest.length ≤ nmax → bindArgs (PySem.W.fnOf x qual (defArgs st) (defBody st) (defScope st) .none kV doc pm an cdv ct) ⟨a :: rest, []⟩ = (newTuple rest >>= fun t => pure [(p1, a), (pv, t)]))
    (hm : nmax ≤ sizeLine) (hw : Walked P w K mg base k N qual st f sp) :
    FnA P w K mg base (k + 1) f [] (fun vs H Q E => ∃ a rest, vs = a :: rest ∧ rest.length ≤ nmax ∧ ∀ p, H p = none → sp [a, .ref p] (upd H p (.tup rest)) Q E) := by
  obtain ⟨oc, od, dV, kV, doc, pm, an, cdv, ct, osl, rfl, lk, hcd, hD, hK⟩ := F.ex
  rcases hD with ⟨_, rfl⟩ | ⟨e, _⟩
  · intro A outer s H us ws vs zs Q E hr e0 r1 r2 l h
    obtain ⟨a, rest, ev, hz', hq⟩ := h
    have hz : rest.length ≤ sizeLine := Nat.le_trans hz' hm
    match ws, l, r2 with
    | [], _, .nil =>
      have ev2 : vs = a :: rest := (List.append_nil vs).symm.trans ev
      subst ev2
      cases r1 with
      | cons ra rr =>
        rename_i ua urest
        have hn : H s.heap.objs.size = Option.none := e0.hok.fresh (Nat.le_refl _)
        have hl2 : urest.length ≤ sizeLine := by rw [← rr.length]; exact hz
        refine StX.run_bnd lk hcd S hr e0 (G := fun xs H2 => ∃ p, H p = Option.none ∧ xs = [a, V.ref p] ∧ H2 = upd H p (.tup rest)) (fun A' Ex' Q' h' => ?_) fun s2 H2 xs ⟨p, hp, ex, eH⟩ hr' => ?_
        · show wpAny _ _ (bindArgs _ ⟨ua :: urest, []⟩) _ _ _
          rw [hb _ _ _ _ _ _ _ _ (by rw [← rr.length]; exact hz')]
          refine wpAny_bind (wpAny_newTuple (wpAny_pure ?_) hl2)
          have new : ObjOk P w (upd H s.heap.objs.size (.tup rest)) (s.heap.push ({ cls := .type "tuple", data := .seq urest.toArray } : Obj)) s.heap.objs.size (.tup rest) := ⟨hz, urest, rr, ⟨_, Heap.get?_push_size _ rfl, rfl, _, rfl⟩⟩
          have un := StX.un_laid (fs := frs outer) (s := s) (o := ({ cls := .type "tuple", data := .seq urest.toArray } : Obj)) (u := .tup rest) hn
          exact h' _ _ [a, V.ref s.heap.objs.size] [ua, Value.ref s.heap.objs.size] (StX.env0_laid e0 new) un rfl (fun e s' => StX.cxUp outer s H _ _ E e s' un (fun b o q => Heap.get?_push_of_some _ q) rfl) (.cons ra (.cons rfl .nil)) rfl ⟨_, hn, rfl, rfl⟩
        · subst ex eH
          exact hw cdv A outer s2 _ _ Q E hr' (hq p hp)
  · exact absurd rfl e
end
/-! ### rows by their keys -/
theorem rows_tb {w : Nat} {rs : List Rwv} (h : RowsOk w rs) : TbOk w (findR rs) := fun k r e => by
  unfold findR at e
  have h2 := List.find?_some e
  exact ⟨of_decide_eq_true h2, h.all r (List.mem_of_find?_eq_some e)⟩
theorem rows_sup {rs : List Rwv} {K0 : List Int} (h : ∀ r ∈ rs, r.key ∈ K0) : Sup K0 (findR rs) := fun k hk => findR_none fun z => by
  obtain ⟨r, hr, e⟩ := List.mem_map.mp z
  exact hk (e ▸ h r hr)
theorem findR_is {w : Nat} {rs : List Rwv} (h : RowsOk w rs) {k : Int} : (findR rs k).isSome = true ↔ k ∈ rs.map Rwv.key := by
  constructor
  · intro z
    obtain ⟨r, e⟩ := Option.isSome_iff_exists.mp z
    have := rows_tb h k r e
    unfold findR at e
    exact List.mem_map.mpr ⟨r, List.mem_of_find?_eq_some e, this.1⟩
  · intro z
    obtain ⟨r, hr, rfl⟩ := List.mem_map.mp z
    obtain ⟨i, hi, e⟩ := List.mem_iff_getElem.mp hr
    rw [findR_some h.ord (i := i) (r := r) (by rw [List.getElem?_eq_getElem hi, e])]
    rfl
theorem rk_len {f : Tb} {k : Int} : ∀ {ks : List Int}, rk f ks k = ((ks.filter fun j => decide (j < k) && (f j).isSome).length : Nat)
  | [] => rfl
  | j :: ks => by
    show (if j < k then b2 (f j).isSome else 0) + rk f ks k = _
    rw [rk_len (ks := ks), List.filter_cons]
    by_cases h : j < k
    · rw [if_pos h, decide_eq_true h, Bool.true_and]
      cases (f j).isSome with
      | false =>
        show (0 : Int) + _ = _
        rw [Int.zero_add, if_neg (by decide)]
      | true =>
        rw [if_pos rfl, List.length_cons]
        show (1 : Int) + _ = _
        omega
    · rw [if_neg h, decide_eq_false h, Bool.false_and, if_neg (by decide), Int.zero_add]
theorem rank_eq {w : Nat} {rs : List Rwv} {K0 : List Int} (h : RowsOk w rs) (hp : K0.Pairwise (· < ·)) (hk : ∀ r ∈ rs, r.key ∈ K0) (k : Int) : ((rs.filter fun r => decide (r.key < k)).length : Nat) = rk (findR rs) K0 k := by
  rw [rk_len]
  have e1 : (K0.filter fun j => decide (j < k) && (findR rs j).isSome) = (rs.map Rwv.key).filter fun j => decide (j < k) := by
    have a1 := keysU_rise (l := (rs.map Rwv.key).filter fun j => decide (j < k)) (hp.sublist (List.filter_sublist (p := fun j => decide (j < k) && (findR rs j).isSome))) fun x => by
      rw [List.mem_filter, List.mem_filter, Bool.and_eq_true, findR_is h]
      constructor
      · exact fun z => ⟨z.2.2, z.2.1⟩
      · intro z
        obtain ⟨r, hr, e⟩ := List.mem_map.mp z.1
        exact ⟨e ▸ hk r hr, z.2, z.1⟩
    have a2 := keysU_rise (l := (rs.map Rwv.key).filter fun j => decide (j < k)) (h.ord.sublist (List.filter_sublist (p := fun j => decide (j < k)))) fun x => Iff.rfl
    exact a1.trans a2.symm
  rw [e1, List.filter_map, List.length_map]
  rfl
end Pl

end

section
set_option Elab.async false
set_option linter.all false
set_option maxRecDepth 100000
set_option maxHeartbeats 4000000
namespace Kx
open PySem PySem.Spec PyProof.Rows L2 Evl Pl
abbrev PR : Program := (PySem.Challenge.rw_placelayers_k92_many_layers_and_keys).prog
def topS (i : Nat) : Stmt := (PySem.Challenge.pw_placelayers_k92_many_layers_and_keys).main.body.getD i (.Pass ⟨0, 0, 0, 0⟩)
abbrev s_is_integer : Stmt := topS 15
theorem sc_is_integer : FnScope ["value"] ["value"] (defScope s_is_integer) := ⟨rfl, rfl, rfl, by decide +kernel, rfl, by decide +kernel, by decide +kernel⟩
abbrev s_count_below : Stmt := topS 18
theorem sc_count_below : FnScope ["numbers", "bound", "low", "high", "middle"] ["numbers", "bound"] (defScope s_count_below) := ⟨rfl, rfl, rfl, by decide +kernel, rfl, by decide +kernel, by decide +kernel⟩
abbrev s_check_width : Stmt := topS 20
theorem sc_check_width : FnScope ["width"] ["width"] (defScope s_check_width) := ⟨rfl, rfl, rfl, by decide +kernel, rfl, by decide +kernel, by decide +kernel⟩
abbrev s_is_row : Stmt := topS 21
theorem sc_is_row : FnScope ["value", "width", "number"] ["value", "width"] (defScope s_is_row) := ⟨rfl, rfl, rfl, by decide +kernel, rfl, by decide +kernel, by decide +kernel⟩
abbrev s_changed_columns : Stmt := topS 22
theorem sc_changed_columns : FnScope ["old", "new", "column"] ["old", "new"] (defScope s_changed_columns) := ⟨rfl, rfl, rfl, by decide +kernel, rfl, by decide +kernel, by decide +kernel⟩
abbrev s_with_columns : Stmt := topS 23
theorem sc_with_columns : FnScope ["row", "columns", "other", "column"] ["row", "columns", "other"] (defScope s_with_columns) := ⟨rfl, rfl, rfl, by decide +kernel, rfl, by decide +kernel, by decide +kernel⟩
abbrev s_is_entry : Stmt := topS 28
theorem sc_is_entry : FnScope ["value", "width", "place", "old", "new", "row"] ["value", "width"] (defScope s_is_entry) := ⟨rfl, rfl, rfl, by decide +kernel, rfl, by decide +kernel, by decide +kernel⟩
abbrev s_entry_key : Stmt := topS 29
theorem sc_entry_key : FnScope ["entry", "_", "old", "new"] ["entry"] (defScope s_entry_key) := ⟨rfl, rfl, rfl, by decide +kernel, rfl, by decide +kernel, by decide +kernel⟩
abbrev s_entry_growth : Stmt := topS 31
theorem sc_entry_growth : FnScope ["entry", "_", "old", "new"] ["entry"] (defScope s_entry_growth) := ⟨rfl, rfl, rfl, by decide +kernel, rfl, by decide +kernel, by decide +kernel⟩
abbrev s_gap_size : Stmt := topS 32
theorem sc_gap_size : FnScope ["entry", "following"] ["entry", "following"] (defScope s_gap_size) := ⟨rfl, rfl, rfl, by decide +kernel, rfl, by decide +kernel, by decide +kernel⟩
abbrev s_in_order : Stmt := topS 33
theorem sc_in_order : FnScope ["entry", "following"] ["entry", "following"] (defScope s_in_order) := ⟨rfl, rfl, rfl, by decide +kernel, rfl, by decide +kernel, by decide +kernel⟩
abbrev s_check_entries : Stmt := topS 34
theorem sc_check_entries : FnScope ["width", "entries", "checked", "index", "entry"] ["width", "entries"] (defScope s_check_entries) := ⟨rfl, rfl, rfl, by decide +kernel, rfl, by decide +kernel, by decide +kernel⟩
abbrev s_turned : Stmt := topS 38
theorem sc_turned : FnScope ["entries", "growth", "result", "entry", "place", "old", "new"] ["entries"] (defScope s_turned) := ⟨rfl, rfl, rfl, by decide +kernel, rfl, by decide +kernel, by decide +kernel⟩
abbrev s_make_link : Stmt := topS 39
theorem sc_make_link : FnScope ["entry", "other", "growth", "place", "old", "new"] ["entry", "other", "growth"] (defScope s_make_link) := ⟨rfl, rfl, rfl, by decide +kernel, rfl, by decide +kernel, by decide +kernel⟩
abbrev s_links : Stmt := topS 40
theorem sc_links : FnScope ["first", "second", "ours", "theirs", "growth", "last", "result", "key", "link", "entry"] ["first", "second"] (defScope s_links) := ⟨rfl, rfl, rfl, by decide +kernel, rfl, by decide +kernel, by decide +kernel⟩
abbrev s_joined : Stmt := topS 41
theorem sc_joined : FnScope ["first", "second", "place", "old", "_", "new"] ["first", "second"] (defScope s_joined) := ⟨rfl, rfl, rfl, by decide +kernel, rfl, by decide +kernel, by decide +kernel⟩
abbrev s_check_rule : Stmt := topS 44
theorem sc_check_rule : FnScope ["by"] ["by"] (defScope s_check_rule) := ⟨rfl, rfl, rfl, by decide +kernel, rfl, by decide +kernel, by decide +kernel⟩
abbrev s_share_base : Stmt := topS 45
theorem sc_share_base : FnScope ["first", "second"] ["first", "second"] (defScope s_share_base) := ⟨rfl, rfl, rfl, by decide +kernel, rfl, by decide +kernel, by decide +kernel⟩
abbrev s_in_conflict : Stmt := topS 46
theorem sc_in_conflict : FnScope ["entry", "other", "by", "changed", "column"] ["entry", "other", "by"] (defScope s_in_conflict) := ⟨rfl, rfl, rfl, by decide +kernel, rfl, by decide +kernel, by decide +kernel⟩
abbrev s_conflicts : Stmt := topS 47
theorem sc_conflicts : FnScope ["first", "second", "by", "result", "entry", "other"] ["first", "second", "by"] (defScope s_conflicts) := ⟨rfl, rfl, rfl, by decide +kernel, rfl, by decide +kernel, by decide +kernel⟩
abbrev s_Layer_init : Stmt := inClass (topS 49) 1
theorem sc_Layer_init : FnScope ["self", "width", "entries", "entry"] ["self", "width", "entries"] (defScope s_Layer_init) := ⟨rfl, rfl, rfl, by decide +kernel, rfl, by decide +kernel, by decide +kernel⟩
abbrev s_Layer_iter : Stmt := inClass (topS 49) 5
theorem sc_Layer_iter : FnScope ["self"] ["self"] (defScope s_Layer_iter) := ⟨rfl, rfl, rfl, by decide +kernel, rfl, by decide +kernel, by decide +kernel⟩
abbrev s_Layer_len : Stmt := inClass (topS 49) 6
theorem sc_Layer_len : FnScope ["self"] ["self"] (defScope s_Layer_len) := ⟨rfl, rfl, rfl, by decide +kernel, rfl, by decide +kernel, by decide +kernel⟩
abbrev s_Layer_entry : Stmt := inClass (topS 49) 10
theorem sc_Layer_entry : FnScope ["self", "key", "at"] ["self", "key"] (defScope s_Layer_entry) := ⟨rfl, rfl, rfl, by decide +kernel, rfl, by decide +kernel, by decide +kernel⟩
abbrev s_Layer_growth_before : Stmt := inClass (topS 49) 9
theorem sc_Layer_growth_before : FnScope ["self", "key", "count", "entry"] ["self", "key"] (defScope s_Layer_growth_before) := ⟨rfl, rfl, rfl, by decide +kernel, rfl, by decide +kernel, by decide +kernel⟩
abbrev s_Layer_only : Stmt := inClass (topS 49) 11
theorem sc_Layer_only : FnScope ["self", "chosen", "entry"] ["self", "chosen"] (defScope s_Layer_only) := ⟨rfl, rfl, rfl, by decide +kernel, rfl, by decide +kernel, by decide +kernel⟩
abbrev s_Layer_without : Stmt := inClass (topS 49) 12
theorem sc_Layer_without : FnScope ["self", "chosen", "entry"] ["self", "chosen"] (defScope s_Layer_without) := ⟨rfl, rfl, rfl, by decide +kernel, rfl, by decide +kernel, by decide +kernel⟩
abbrev s_Layer_add : Stmt := inClass (topS 49) 14
theorem sc_Layer_add : FnScope ["self", "other"] ["self", "other"] (defScope s_Layer_add) := ⟨rfl, rfl, rfl, by decide +kernel, rfl, by decide +kernel, by decide +kernel⟩
abbrev s_moved_entry : Stmt := topS 51
theorem sc_moved_entry : FnScope ["entry", "over", "place", "old", "new", "key", "other"] ["entry", "over"] (defScope s_moved_entry) := ⟨rfl, rfl, rfl, by decide +kernel, rfl, by decide +kernel, by decide +kernel⟩
abbrev s_moved : Stmt := topS 52
theorem sc_moved : FnScope ["layer", "over", "by", "found", "entry"] ["layer", "over", "by"] (defScope s_moved) := ⟨rfl, rfl, rfl, by decide +kernel, rfl, by decide +kernel, by decide +kernel⟩
abbrev s_merged : Stmt := topS 53
theorem sc_merged : FnScope ["first", "by", "rest", "result", "layer"] ["first", "by", "rest"] (defScope s_merged) := ⟨rfl, rfl, rfl, by decide +kernel, rfl, by decide +kernel, by decide +kernel⟩
abbrev s__law_take : Stmt := topS 55
theorem sc__law_take : FnScope ["script", "box", "limit", "cell", "left", "value"] ["script", "box", "limit"] (defScope s__law_take) := ⟨rfl, rfl, rfl, by decide +kernel, rfl, by decide +kernel, by decide +kernel⟩
abbrev s__law_number : Stmt := topS 56
theorem sc__law_number : FnScope ["script", "box", "pick", "far"] ["script", "box"] (defScope s__law_number) := ⟨rfl, rfl, rfl, by decide +kernel, rfl, by decide +kernel, by decide +kernel⟩
abbrev s__law_width : Stmt := topS 57
theorem sc__law_width : FnScope ["script", "box", "width"] ["script", "box"] (defScope s__law_width) := ⟨rfl, rfl, rfl, by decide +kernel, rfl, by decide +kernel, by decide +kernel⟩
abbrev s__law_rows : Stmt := topS 58
theorem sc__law_rows : FnScope ["script", "box", "width", "most", "many", "key", "rows", "k", "c"] ["script", "box", "width", "most"] (defScope s__law_rows) := ⟨rfl, rfl, rfl, by decide +kernel, rfl, by decide +kernel, by decide +kernel⟩
abbrev s__law_target : Stmt := topS 59
theorem sc__law_target : FnScope ["script", "box", "rows", "width", "room", "mode", "target", "edge", "k", "more", "key", "row", "pick", "column", "c"] ["script", "box", "rows", "width", "room"] (defScope s__law_target) := ⟨rfl, rfl, rfl, by decide +kernel, rfl, by decide +kernel, by decide +kernel⟩
abbrev s__law_rank : Stmt := topS 60
theorem sc__law_rank : FnScope ["rows", "key", "row"] ["rows", "key"] (defScope s__law_rank) := ⟨rfl, rfl, rfl, by decide +kernel, rfl, by decide +kernel, by decide +kernel⟩
abbrev s__law_find : Stmt := topS 61
theorem sc__law_find : FnScope ["rows", "key", "row"] ["rows", "key"] (defScope s__law_find) := ⟨rfl, rfl, rfl, by decide +kernel, rfl, by decide +kernel, by decide +kernel⟩
abbrev s__law_entries : Stmt := topS 62
theorem sc__law_entries : FnScope ["rows", "target", "entries", "key", "old", "new", "row"] ["rows", "target"] (defScope s__law_entries) := ⟨rfl, rfl, rfl, by decide +kernel, rfl, by decide +kernel, by decide +kernel⟩
abbrev s__law_is_int : Stmt := topS 63
theorem sc__law_is_int : FnScope ["value"] ["value"] (defScope s__law_is_int) := ⟨rfl, rfl, rfl, by decide +kernel, rfl, by decide +kernel, by decide +kernel⟩
abbrev s__law_is_row : Stmt := topS 64
theorem sc__law_is_row : FnScope ["value", "row", "number"] ["value", "row"] (defScope s__law_is_row) := ⟨rfl, rfl, rfl, by decide +kernel, rfl, by decide +kernel, by decide +kernel⟩
abbrev s__law_is_entry : Stmt := topS 65
theorem sc__law_is_entry : FnScope ["value", "entry", "k"] ["value", "entry"] (defScope s__law_is_entry) := ⟨rfl, rfl, rfl, by decide +kernel, rfl, by decide +kernel, by decide +kernel⟩
abbrev s__law_is_entries : Stmt := topS 66
theorem sc__law_is_entries : FnScope ["value", "entries", "k"] ["value", "entries"] (defScope s__law_is_entries) := ⟨rfl, rfl, rfl, by decide +kernel, rfl, by decide +kernel, by decide +kernel⟩
abbrev s__law_is_layer : Stmt := topS 67
theorem sc__law_is_layer : FnScope ["value", "width", "entries"] ["value", "width", "entries"] (defScope s__law_is_layer) := ⟨rfl, rfl, rfl, by decide +kernel, rfl, by decide +kernel, by decide +kernel⟩
abbrev s__law_key : Stmt := topS 68
theorem sc__law_key : FnScope ["entry"] ["entry"] (defScope s__law_key) := ⟨rfl, rfl, rfl, by decide +kernel, rfl, by decide +kernel, by decide +kernel⟩
abbrev s__law_changed : Stmt := topS 69
theorem sc__law_changed : FnScope ["entry", "c"] ["entry"] (defScope s__law_changed) := ⟨rfl, rfl, rfl, by decide +kernel, rfl, by decide +kernel, by decide +kernel⟩
abbrev s__law_shared_out : Stmt := topS 70
theorem sc__law_shared_out : FnScope ["script", "box", "entries", "many", "rule", "k", "parts", "entry", "news", "c", "row"] ["script", "box", "entries", "many", "rule"] (defScope s__law_shared_out) := ⟨rfl, rfl, rfl, by decide +kernel, rfl, by decide +kernel, by decide +kernel⟩
abbrev s__law_merged : Stmt := topS 71
theorem sc__law_merged : FnScope ["ls", "rule"] ["ls", "rule"] (defScope s__law_merged) := ⟨rfl, rfl, rfl, by decide +kernel, rfl, by decide +kernel, by decide +kernel⟩
abbrev s__law_conflict : Stmt := topS 72
theorem sc__law_conflict : FnScope ["ls", "rule", "told", "e"] ["ls", "rule"] (defScope s__law_conflict) := ⟨rfl, rfl, rfl, by decide +kernel, rfl, by decide +kernel, by decide +kernel⟩
abbrev s__law_are_pairs : Stmt := topS 73
theorem sc__law_are_pairs : FnScope ["value", "pairs", "k"] ["value", "pairs"] (defScope s__law_are_pairs) := ⟨rfl, rfl, rfl, by decide +kernel, rfl, by decide +kernel, by decide +kernel⟩
abbrev s__law_parts : Stmt := topS 74
theorem sc__law_parts : FnScope ["layer", "width", "entries", "ks", "few", "rest", "part", "entry"] ["layer", "width", "entries", "ks"] (defScope s__law_parts) := ⟨rfl, rfl, rfl, by decide +kernel, rfl, by decide +kernel, by decide +kernel⟩
abbrev s_law : Stmt := topS 75
theorem sc_law : FnScope ["script", "box", "width", "base", "entries", "rule", "many", "parts", "ls", "turn", "order", "k", "again", "twice", "pairs", "told", "ks", "part", "entry"] ["script"] (defScope s_law) := ⟨rfl, rfl, rfl, by decide +kernel, rfl, by decide +kernel, by decide +kernel⟩
abbrev s_Conflict_init : Stmt := inClass (topS 11) 0
structure Top (K : Fg) (mg : Str → Option Value) : Prop where
  f_is_integer : IsDef K mg "is_integer" s_is_integer
  f_count_below : IsDef K mg "count_below" s_count_below
  f_check_width : IsDef K mg "check_width" s_check_width
  f_is_row : IsDef K mg "is_row" s_is_row
  f_changed_columns : IsDef K mg "changed_columns" s_changed_columns
  f_with_columns : IsDef K mg "with_columns" s_with_columns
  f_is_entry : IsDef K mg "is_entry" s_is_entry
  f_entry_key : IsDef K mg "entry_key" s_entry_key
  f_entry_growth : IsDef K mg "entry_growth" s_entry_growth
  f_gap_size : IsDef K mg "gap_size" s_gap_size
  f_in_order : IsDef K mg "in_order" s_in_order
  f_check_entries : IsDef K mg "check_entries" s_check_entries
  f_turned : IsDef K mg "turned" s_turned
  f_make_link : IsDef K mg "make_link" s_make_link
  f_links : IsDef K mg "links" s_links
  f_joined : IsDef K mg "joined" s_joined
  f_check_rule : IsDef K mg "check_rule" s_check_rule
  f_share_base : IsDef K mg "share_base" s_share_base
  f_in_conflict : IsDef K mg "in_conflict" s_in_conflict
  f_conflicts : IsDef K mg "conflicts" s_conflicts
  f_moved_entry : IsDef K mg "moved_entry" s_moved_entry
  f_moved : IsDef K mg "moved" s_moved
  f_merged : IsDef K mg "merged" s_merged
  f__law_take : IsDef K mg "_law_take" s__law_take
  f__law_number : IsDef K mg "_law_number" s__law_number
  f__law_width : IsDef K mg "_law_width" s__law_width
  f__law_rows : IsDef K mg "_law_rows" s__law_rows
  f__law_target : IsDef K mg "_law_target" s__law_target
  f__law_rank : IsDef K mg "_law_rank" s__law_rank
  f__law_find : IsDef K mg "_law_find" s__law_find
  f__law_entries : IsDef K mg "_law_entries" s__law_entries
  f__law_is_int : IsDef K mg "_law_is_int" s__law_is_int
  f__law_is_row : IsDef K mg "_law_is_row" s__law_is_row
  f__law_is_entry : IsDef K mg "_law_is_entry" s__law_is_entry
  f__law_is_entries : IsDef K mg "_law_is_entries" s__law_is_entries
  f__law_is_layer : IsDef K mg "_law_is_layer" s__law_is_layer
  f__law_key : IsDef K mg "_law_key" s__law_key
  f__law_changed : IsDef K mg "_law_changed" s__law_changed
  f__law_shared_out : IsDef K mg "_law_shared_out" s__law_shared_out
  f__law_merged : IsDef K mg "_law_merged" s__law_merged
  f__law_conflict : IsDef K mg "_law_conflict" s__law_conflict
  f__law_are_pairs : IsDef K mg "_law_are_pairs" s__law_are_pairs
  f__law_parts : IsDef K mg "_law_parts" s__law_parts
  f_law : IsDef K mg "law" s_law
  g_Layer : mg "Layer" = some (.ref (He.ga K "Layer"))
  o_Layer : IsiF K (He.ga K "Layer")
  c_Layer : SlX.SCls K (He.ga K "Layer")
  s_Layer__entries : SlX.Slot1 K (He.ga K "Layer") "_entries" (He.ma K (He.ga K "Layer") "_entries") 0
  s_Layer__key_list : SlX.Slot1 K (He.ga K "Layer") "_key_list" (He.ma K (He.ga K "Layer") "_key_list") 1
  s_Layer_width : SlX.Slot1 K (He.ga K "Layer") "width" (He.ma K (He.ga K "Layer") "width") 2
  i_Layer : IsInit K "Layer" "Layer.__init__" s_Layer_init [.ref (dfAd "Layer" K)]
  e_Layer : ∀ H : Hp, SqT K H (dfAd "Layer" K) []
  m_Layer_iter : IsMet K "Layer" "__iter__" "Layer.__iter__" s_Layer_iter
  m_Layer_len : IsMet K "Layer" "__len__" "Layer.__len__" s_Layer_len
  m_Layer_entry : IsMet K "Layer" "entry" "Layer.entry" s_Layer_entry
  m_Layer_growth_before : IsMet K "Layer" "growth_before" "Layer.growth_before" s_Layer_growth_before
  m_Layer_only : IsMet K "Layer" "only" "Layer.only" s_Layer_only
  m_Layer_without : IsMet K "Layer" "without" "Layer.without" s_Layer_without
  m_Layer_add : IsMet K "Layer" "__add__" "Layer.__add__" s_Layer_add
  g_DoesNotFollow : mg "DoesNotFollow" = some (.ref (He.ga K "DoesNotFollow"))
  x_DoesNotFollow : IsExc0 K "DoesNotFollow" []
  g_Conflict : mg "Conflict" = some (.ref (He.ga K "Conflict"))
  x_Conflict : Exc1 PR K mg "Conflict" "conflicts" (He.ga K "Conflict")
  ex_DoesNotFollow_DoesNotFollow : PySem.W.exmOne K (.ref (He.ga K "DoesNotFollow")) (.ref (He.ga K "DoesNotFollow")) = some true
  ex_Conflict_Conflict : PySem.W.exmOne K (.ref (He.ga K "Conflict")) (.ref (He.ga K "Conflict")) = some true
  xf_Conflict : XfC K (He.ga K "Conflict")
  nf_Conflict_conflicts : PySem.W.findIn K (.ref (He.ga K "Conflict")) "conflicts" = some none
  g_RULES : mg "RULES" = some (.ref (He.ga K "RULES"))
  t_RULES : ∀ H : Hp, SqT K H (He.ga K "RULES") [.str "row", .str "column"]
  b_isinstance : mg "isinstance" = none
  b_int : mg "int" = none
  b_bool : mg "bool" = none
  b_tuple : mg "tuple" = none
  b_len : mg "len" = none
  b_all : mg "all" = none
  b_any : mg "any" = none
  b_enumerate : mg "enumerate" = none
  b_range : mg "range" = none
  b_sorted : mg "sorted" = none
  b_iter : mg "iter" = none
  b_list : mg "list" = none
  b_abs : mg "abs" = none
  b_set : mg "set" = none
  b_min : mg "min" = none
  b_sum : mg "sum" = none
end Kx


end

section
set_option Elab.async false
set_option linter.all false
set_option maxRecDepth 100000
set_option maxHeartbeats 4000000
namespace Kx
open PySem PySem.Spec PyProof.Rows L2 Evl Pl
/-! ### small defs -/
def spIsInt : Sp := fun vs H Q _ => ∃ n : Int, vs = [.int n] ∧ Q (.bl true) H
theorem ok_is_integer {w : World} {K : Fg} {mg : Str → Option Value} {base : Heap} (T : Top K mg)  : FnA PR w K mg base 1 (He.ga K "is_integer") [] (spIsInt) := by
  obtain ⟨_, fd, F⟩ := T.f_is_integer
  refine fna_d0 F sc_is_integer (fun vs H Q E h => ?_) (fun _ _ _ _ _ _ us hl => match us, hl with | [_], _ => rfl) (fun cdv A outer s H vs Q E hr h => ?_)
  · obtain ⟨n, rfl, hQ⟩ := h; rfl
  obtain ⟨n, rfl, hQ⟩ := h
  refine ⟨_, (pss_one (ps_ret (pe_and (pe_callB call_isi (by rfl) T.b_isinstance (by decide +kernel) (pa_cons (pv 0) (pa_cons (pe_bltn (v := .ty "int") (u := .type "int") (by rfl) T.b_int (by decide +kernel) rfl) pa_nil))) (pe_one (pe_not (pe_callB call_isi (by rfl) T.b_isinstance (by decide +kernel) (pa_cons (pv 0) (pa_cons (pe_bltn (v := .ty "bool") (u := .type "bool") (by rfl) T.b_bool (by decide +kernel) rfl) pa_nil)))))))), ?_⟩
  refine ⟨_, rfl, _, _, _, _, _, rfl, .ty _, tyI, kit_ii, true, rfl, ?_⟩
  refine ⟨_, rfl, _, _, _, _, _, rfl, .ty _, tyI, kit_ib, false, rfl, hQ⟩
def spCount (K : Fg) : Sp := fun vs H Q _ => ∃ (a : Addr) (ns : List Int) (b : Int), vs = [.ref a, .int b] ∧ SqL K H a (vis ns) ∧ ns.Pairwise (· < ·) ∧ ∀ k : Nat, Cut ns b k → Q (.int (k : Int)) H
theorem ok_count_below {w : World} {K : Fg} {mg : Str → Option Value} {base : Heap} (T : Top K mg)  : FnA PR w K mg base 1 (He.ga K "count_below") [] ((spCount K)) := by
  obtain ⟨_, fd, F⟩ := T.f_count_below
  refine fna_d0 F sc_count_below (fun vs H Q E h => ?_) (fun _ _ _ _ _ _ us hl => match us, hl with | [_, _], _ => rfl) (fun cdv A outer s H vs Q E hr h => ?_)
  · obtain ⟨a, ns, b, rfl, hS, hp, hQ⟩ := h; rfl
  obtain ⟨a, ns, b, rfl, hS, hp, hQ⟩ := h
  refine ⟨_, (pss_cons (ps_set (i := 2) sc_count_below.nd rfl (Or.inl rfl) pe_int)
    (pss_cons (ps_set (i := 3) sc_count_below.nd rfl (Or.inl rfl) (pe_callB call_len_seq (by rfl) T.b_len (by decide +kernel) (pa_cons (pv 0) pa_nil)))
    (pss_cons (ps_while poOf (pt_cmpR op_lt (pv 2) (pv 3) (nomark _)) (pss_cons (ps_set (i := 4) sc_count_below.nd rfl (Or.inl rfl) (pe_op op_fdiv (pe_op op_add (pv 2) (pv 3)) pe_int))
    (pss_one (ps_if (pt_cmpR op_lt (pe_ix ix_list (pv 0) (pv 4) (fun _ _ => rfl)) (pv 1) (nomark _)) (pss_one (ps_set (i := 2) sc_count_below.nd rfl (Or.inl rfl) (pe_op op_add (pv 4) pe_int))) (pss_one (ps_set (i := 3) sc_count_below.nd rfl (Or.inl rfl) (pv 4)))))))
    (pss_one (ps_ret (pv 2)))))), ?_⟩
  refine ⟨_, rfl, _, _, rfl, .inl hS, ?_⟩
  refine ⟨fun m σ H' => H' = H ∧ ∃ (lo hi : Int) (mid : Option V), σ = [some (.ref a), some (.int b), some (.int lo), some (.int hi), mid] ∧ 0 ≤ lo ∧ lo ≤ hi ∧ hi ≤ (ns.length : Int) ∧ m = (hi - lo).toNat ∧
    (∀ (i : Nat) x, ns[i]? = some x → (i : Int) < lo → x < b) ∧ ∀ (i : Nat) x, ns[i]? = some x → hi ≤ (i : Int) → ¬ x < b, ⟨_, rfl, 0, (ns.length : Int), none, by rw [← vis_len ns]; rfl, by omega, by omega, by omega, rfl, fun i x _ h => by omega, fun i x h1 h2 => ?_⟩, ?_⟩
  · have := (List.getElem?_eq_some_iff.mp h1).1
    omega
  rintro m σ H' ⟨rfl, lo, hi, mid, rfl, h0, h1, h2, rfl, hl, hh⟩
  refine ⟨_, rfl, _, rfl, _, _, rfl, rfl, _, rfl, ?_⟩
  refine ite2 (fun h => ?_) fun h => ?_
  · have hlt : lo < hi := of_decide_eq_true h
    refine ⟨_, fun _ _ z => z, ?_⟩
    refine ⟨_, rfl, _, rfl, _, _, rfl, rfl, _, _, rfl, rfl, ⟨by decide, by decide⟩, ?_⟩
    have e1 : lo ≤ (lo + hi) / 2 := by omega
    have e2 : (lo + hi) / 2 < hi := by omega
    have e3 : ((lo + hi) / 2).toNat < ns.length := by omega
    have hx : ns[((lo + hi) / 2).toNat]? = some ns[((lo + hi) / 2).toNat] := List.getElem?_eq_getElem e3
    refine ⟨_, rfl, _, rfl, _, _, _, _, rfl, rfl, hS, atI_int (by omega) (vis_get hx), _, rfl, _, _, rfl, rfl, _, rfl, ?_⟩
    refine ite2 (fun h => ?_) fun h => ?_
    · have hb : ns[((lo + hi) / 2).toNat] < b := of_decide_eq_true h
      refine ⟨_, rfl, _, _, rfl, rfl, _, ?_, rfl, _, _, _, rfl, by omega, by omega, h2, rfl, fun i x hi2 hlt2 => ?_, hh⟩
      · omega
      · rcases Nat.lt_trichotomy i ((lo + hi) / 2).toNat with z | z | z
        · have := pw_get hp hi2 hx z
          omega
        · subst z
          rw [hx] at hi2
          have := Option.some.inj hi2
          omega
        · omega
    · have hb : ¬ ns[((lo + hi) / 2).toNat] < b := fun z => h (decide_eq_true z)
      refine ⟨_, rfl, _, ?_, rfl, _, _, _, rfl, h0, by omega, by omega, rfl, hl, fun i x hi2 hle => ?_⟩
      · omega
      · rcases Nat.lt_trichotomy i ((lo + hi) / 2).toNat with z | z | z
        · omega
        · subst z
          rw [hx] at hi2
          have := Option.some.inj hi2
          omega
        · have := pw_get hp hx hi2 z
          omega
  · have hle : lo = hi := by
      have : ¬ lo < hi := fun z => h (decide_eq_true z)
      omega
    subst hle
    have q := hQ lo.toNat ⟨by omega, fun i x hx => ⟨fun z => hl i x hx (by omega), fun z => Nat.lt_of_not_le fun q => hh i x hx (by omega) z⟩⟩
    rw [Int.toNat_of_nonneg h0] at q
    exact ⟨_, rfl, q⟩
def spCheckWidth : Sp := fun vs H Q _ => ∃ n : Int, vs = [.int n] ∧ 1 ≤ n ∧ Q .non H
theorem ok_check_width {w : World} {K : Fg} {mg : Str → Option Value} {base : Heap} (T : Top K mg) (D_is_integer : Df PR w K mg base 1 "is_integer" [] spIsInt) : FnA PR w K mg base 2 (He.ga K "check_width") [] (spCheckWidth) := by
  obtain ⟨_, fd, F⟩ := T.f_check_width
  refine fna_d0 F sc_check_width (fun vs H Q E h => ?_) (fun _ _ _ _ _ _ us hl => match us, hl with | [_], _ => rfl) (fun cdv A outer s H vs Q E hr h => ?_)
  · obtain ⟨n, rfl, hw, hQ⟩ := h; rfl
  obtain ⟨n, rfl, hw, hQ⟩ := h
  refine ⟨_, (pss_one (ps_if (PW.pt (pw_or (pt_not (pt_val (pe_df D_is_integer (hr.mono (by decide)) (by rfl) passLA (pa_cons (pv 0) pa_nil)))) (pw_or1 (pt_cmpR op_lt (pv 0) pe_int (nomark _))))) (pss_one ps_never) pss_nil)), ?_⟩
  refine ⟨_, rfl, _, rfl, true, rfl, ?_⟩
  refine iteF ⟨_, rfl, _, _, rfl, rfl, _, rfl, ?_⟩
  exact ite2 (fun h => absurd (of_decide_eq_true h) (by omega)) fun _ => hQ
def spIsRow (K : Fg) : Sp := fun vs H Q _ => ∃ (a : Addr) (r : Rwv) (n : Int), vs = [.ref a, .int n] ∧ SqT K H a (vis r) ∧ r.length ≤ 100000 ∧ ∀ H', Ex H H' → Q (.bl (decide ((r.length : Int) = n))) H'
theorem ok_is_row {w : World} {K : Fg} {mg : Str → Option Value} {base : Heap} (T : Top K mg) (D_is_integer : Df PR w K mg base 1 "is_integer" [] spIsInt) : FnA PR w K mg base 2 (He.ga K "is_row") [] ((spIsRow K)) := by
  obtain ⟨_, fd, F⟩ := T.f_is_row
  refine fna_d0 F sc_is_row (fun vs H Q E h => ?_) (fun _ _ _ _ _ _ us hl => match us, hl with | [_, _], _ => rfl) (fun cdv A outer s H vs Q E hr h => ?_)
  · obtain ⟨a, r, n, rfl, hS, hz, hQ⟩ := h; rfl
  obtain ⟨a, r, n, rfl, hS, hz, hQ⟩ := h
  refine ⟨_, (pss_cons (ps_if (PW.pt (pw_or (pt_not (pt_val (pe_callB call_isi (by rfl) T.b_isinstance (by decide +kernel) (pa_cons (pv 0) (pa_cons (pe_bltn (v := .ty "tuple") (u := .type "tuple") (by rfl) T.b_tuple (by decide +kernel) rfl) pa_nil))))) (pw_or1 (pt_cmpR op_ne (pe_callB call_len_seq (by rfl) T.b_len (by decide +kernel) (pa_cons (pv 0) pa_nil)) (pv 1) (nomark _))))) (pss_one (ps_ret pe_bl)) pss_nil)
    (pss_one (ps_ret (pe_callB (cr_all rfl) (by rfl) T.b_all (by decide +kernel) (pa_cons (pe_lc (own := [("number", 2)]) (g := gName 2) (tt := tYes) rfl sc_is_row.nd (pi_tup (pv 0)) (blkOk_by (own := [("number", 2)]) (N := ["value", "width", "number"]) (sc := defScope s_is_row) (by decide +kernel)) (fun _ _ _ _ _ => (pg_name (i := 2) sc_is_row.nd rfl (Or.inl rfl))) (fun _ _ _ _ _ => pts_nil) (fun _ _ _ _ _ => (pe_df D_is_integer (hr.mono (by decide)) (by rfl) passLA (pa_cons (pv 2) pa_nil)))) pa_nil))))), ?_⟩
  refine ⟨_, rfl, _, _, _, _, _, rfl, .ty _, tyT hS, kit_tt, true, rfl, ?_⟩
  refine iteF ⟨_, rfl, _, _, rfl, .inr hS, _, rfl, rfl, _, rfl, ?_⟩
  by_cases hl : (r.length : Int) = n
  · refine iteNS (by rw [vis_len, hl]) ?_
    refine ⟨_, rfl, a, rfl, ⟨_, hS⟩, fun D hD => ?_⟩
    refine lc_mapNT (ys := (List.replicate r.length true).map V.bl) hS (by rw [vis_len]; exact szK hz) hD (by simp) (fun _ => rfl) (fun i x y H2 Q' hx hy e k => ?_) fun H2 e hy => ?_
    · rw [List.getElem?_map] at hx hy
      obtain ⟨z, hz1, ez⟩ := Option.map_eq_some_iff.mp hx
      obtain ⟨u, hu1, eu⟩ := Option.map_eq_some_iff.mp hy
      have e2 : u = true := by
        have := List.mem_of_getElem? hu1
        rw [List.mem_replicate] at this
        exact this.2
      subst ez eu e2
      exact ⟨_, rfl, z, rfl, k H2 (Ex.refl _)⟩
    · refine ⟨_, List.replicate r.length true, rfl, sq_of hy, ?_⟩
      have q := hQ H2 e
      have e1 : (List.replicate r.length true).all id = true := by simp
      rw [decide_eq_true hl] at q
      rw [e1]
      exact q
  · refine ite2 (fun _ => ?_) fun h => absurd (show (!decide (V.int ((vis r).length : Int) = V.int n)) = true by rw [vis_len, decide_eq_false (by intro z; injection z with z; exact hl z)]; rfl) h
    have q := hQ H (Ex.refl _)
    rw [decide_eq_false hl] at q
    exact q
def spCheckRows (K : Fg) : Sp := fun vs H Q _ => ∃ (L : Bool) (a : Addr) (us : List V) (rs : List Rwv) (n : Nat), vs = [.int (n : Int), .ref a] ∧ EnS K L a us H ∧ All2 (VR K H) us rs ∧ 1 ≤ n ∧ n ≤ 1000 ∧ RowsOk n rs ∧ rs.length ≤ 100000 ∧
  ∀ l H', H l = none → Ex H H' → H' l = some (.lst us) → Q (.ref l) H'

end Kx

end

section
set_option Elab.async false
set_option linter.all false
set_option maxRecDepth 100000
set_option maxHeartbeats 4000000
namespace Kx
open PySem PySem.Spec PyProof.Rows L2 Evl Pl
/-! ### entries -/
def spKey (K : Fg) : Sp := fun vs H Q _ => ∃ (v : V) (e : Ent) (n : Nat), vs = [v] ∧ VE K H v e ∧ KeyOk n e ∧ 1 ≤ n ∧ Q (.int e.key) H
theorem ok_entry_key {w : World} {K : Fg} {mg : Str → Option Value} {base : Heap} (T : Top K mg)  : FnA PR w K mg base 1 (He.ga K "entry_key") [] ((spKey K)) := by
  obtain ⟨_, fd, F⟩ := T.f_entry_key
  refine fna_d0 F sc_entry_key (fun vs H Q E h => ?_) (fun _ _ _ _ _ _ us hl => match us, hl with | [_], _ => rfl) (fun cdv A outer s H vs Q E hr h => ?_)
  · obtain ⟨v, e, n, rfl, ⟨a, x, y, rfl, hS, hx, hy⟩, ok, hn, hQ⟩ := h; rfl
  obtain ⟨v, e, n, rfl, ⟨a, x, y, rfl, hS, hx, hy⟩, ok, hn, hQ⟩ := h
  refine ⟨_, (pss_cons (ps_asg (pv 0) (pg_tup (by rfl) (pgs_cons (pg_name (i := 1) sc_entry_key.nd rfl (Or.inl rfl)) (pgs_cons (pg_name (i := 2) sc_entry_key.nd rfl (Or.inl rfl)) (pgs_cons (pg_name (i := 3) sc_entry_key.nd rfl (Or.inl rfl)) pgs_nil)))))
    (pss_cons (ps_if (pt_cmpR op_isN (pv 2) pe_non (nomark _)) (pss_one (ps_ret (pe_ix ix_tup (pv 3) pe_int (fun _ _ => rfl)))) pss_nil)
    (pss_one (ps_ret (pe_ix ix_tup (pv 2) pe_int (fun _ _ => rfl)))))), ?_⟩
  refine ⟨_, rfl, a, _, rfl, hS, rfl, _, _, rfl, _, _, rfl, _, _, rfl, rfl, ?_⟩
  refine ⟨_, rfl, rfl, _, rfl, ?_⟩
  rw [hx.isN]
  cases ho : e.o with
  | none =>
    refine ifT rfl ?_
    cases hnn : e.n with
    | none => exact (ok.k ho hnn).elim
    | some r =>
      rw [hnn] at hy
      obtain ⟨b, rfl, hb⟩ := hy
      have ro := ok.n
      rw [hnn] at ro
      refine ⟨_, rfl, _, _, _, _, rfl, rfl, hb, atI0 (row0 ro hn), ?_⟩
      have ek : e.key = r.key := by unfold Ent.key; rw [ho, hnn]
      rw [ek] at hQ
      exact hQ
  | some r =>
    refine ifF rfl ?_
    rw [ho] at hx
    obtain ⟨b, rfl, hb⟩ := hx
    have ro := ok.o
    rw [ho] at ro
    refine ⟨_, rfl, _, _, _, _, rfl, rfl, hb, atI0 (row0 ro hn), ?_⟩
    have ek : e.key = r.key := by unfold Ent.key; rw [ho]
    rw [ek] at hQ
    exact hQ
def spGrow (K : Fg) : Sp := fun vs H Q _ => ∃ (v : V) (e : Ent), vs = [v] ∧ VE K H v e ∧ Q (.int e.grow) H
theorem ok_entry_growth {w : World} {K : Fg} {mg : Str → Option Value} {base : Heap} (T : Top K mg)  : FnA PR w K mg base 1 (He.ga K "entry_growth") [] ((spGrow K)) := by
  obtain ⟨_, fd, F⟩ := T.f_entry_growth
  refine fna_d0 F sc_entry_growth (fun vs H Q E h => ?_) (fun _ _ _ _ _ _ us hl => match us, hl with | [_], _ => rfl) (fun cdv A outer s H vs Q E hr h => ?_)
  · obtain ⟨v, e, rfl, ⟨a, x, y, rfl, hS, hx, hy⟩, hQ⟩ := h; rfl
  obtain ⟨v, e, rfl, ⟨a, x, y, rfl, hS, hx, hy⟩, hQ⟩ := h
  refine ⟨_, (pss_cons (ps_asg (pv 0) (pg_tup (by rfl) (pgs_cons (pg_name (i := 1) sc_entry_growth.nd rfl (Or.inl rfl)) (pgs_cons (pg_name (i := 2) sc_entry_growth.nd rfl (Or.inl rfl)) (pgs_cons (pg_name (i := 3) sc_entry_growth.nd rfl (Or.inl rfl)) pgs_nil)))))
    (pss_one (ps_ret (pe_op op_sub (pe_callTy call_int1 (by rfl) T.b_int (by decide +kernel) (pa_cons (pe_cmpR op_notN (pv 3) pe_non (nomark _)) pa_nil)) (pe_callTy call_int1 (by rfl) T.b_int (by decide +kernel) (pa_cons (pe_cmpR op_notN (pv 2) pe_non (nomark _)) pa_nil)))))), ?_⟩
  refine ⟨_, rfl, a, _, rfl, hS, rfl, _, _, rfl, _, _, rfl, _, _, rfl, rfl, ?_⟩
  refine ⟨_, rfl, rfl, .inr ⟨_, rfl, ?_⟩⟩
  refine ⟨_, rfl, rfl, .inr ⟨_, rfl, ?_⟩⟩
  refine ⟨_, _, rfl, rfl, ?_⟩
  rw [hx.isN, hy.isN]
  have eg : e.grow = (if (!e.n.isNone) = true then 1 else 0) - (if (!e.o.isNone) = true then 1 else 0) := by
    unfold Ent.grow b2
    cases e.o <;> cases e.n <;> rfl
  rw [eg] at hQ
  exact hQ
def spGap (K : Fg) : Sp := fun vs H Q _ => ∃ (a b : Addr) (p q : Int) (x : V) (l m : List V), vs = [.ref a, .ref b] ∧ SqT K H a (.int p :: x :: l) ∧ SqT K H b (.int q :: m) ∧ Q (.int (q - p - b2 (!decide (x = .non)))) H
theorem ok_gap_size {w : World} {K : Fg} {mg : Str → Option Value} {base : Heap} (T : Top K mg)  : FnA PR w K mg base 1 (He.ga K "gap_size") [] ((spGap K)) := by
  obtain ⟨_, fd, F⟩ := T.f_gap_size
  refine fna_d0 F sc_gap_size (fun vs H Q E h => ?_) (fun _ _ _ _ _ _ us hl => match us, hl with | [_, _], _ => rfl) (fun cdv A outer s H vs Q E hr h => ?_)
  · obtain ⟨a, b, p, q, x, l, m, rfl, ha, hb, hQ⟩ := h; rfl
  obtain ⟨a, b, p, q, x, l, m, rfl, ha, hb, hQ⟩ := h
  refine ⟨_, (pss_one (ps_ret (pe_op op_sub (pe_op op_sub (pe_ix ix_tup (pv 1) pe_int (fun _ _ => rfl)) (pe_ix ix_tup (pv 0) pe_int (fun _ _ => rfl))) (pe_callTy call_int1 (by rfl) T.b_int (by decide +kernel) (pa_cons (pe_cmpR op_notN (pe_ix ix_tup (pv 0) pe_int (fun _ _ => rfl)) pe_non (nomark _)) pa_nil))))), ?_⟩
  refine ⟨_, rfl, _, _, _, _, rfl, rfl, hb, atI0 rfl, ?_⟩
  refine ⟨_, rfl, _, _, _, _, rfl, rfl, ha, atI0 rfl, ?_⟩
  refine ⟨_, _, rfl, rfl, ?_⟩
  refine ⟨_, rfl, _, _, _, _, rfl, rfl, ha, atI1 rfl, ?_⟩
  refine ⟨rfl, .inr ⟨_, rfl, ?_⟩⟩
  exact ⟨_, _, rfl, rfl, hQ⟩
def spInOrd (K : Fg) : Sp := fun vs H Q _ => ∃ (u v : V) (e f : Ent) (n : Nat), vs = [u, v] ∧ VE K H u e ∧ VE K H v f ∧ EntOk n e ∧ EntOk n f ∧ 1 ≤ n ∧ Q (.bl (decide (InOrd e f))) H
theorem ok_in_order {w : World} {K : Fg} {mg : Str → Option Value} {base : Heap} (T : Top K mg) (D_gap_size : Df PR w K mg base 1 "gap_size" [] (spGap K)) (D_entry_key : Df PR w K mg base 1 "entry_key" [] (spKey K)) : FnA PR w K mg base 2 (He.ga K "in_order") [] ((spInOrd K)) := by
  obtain ⟨_, fd, F⟩ := T.f_in_order
  refine fna_d0 F sc_in_order (fun vs H Q E h => ?_) (fun _ _ _ _ _ _ us hl => match us, hl with | [_, _], _ => rfl) (fun cdv A outer s H vs Q E hr h => ?_)
  · obtain ⟨u, v, e, f, n, rfl, hu, hv, oke, okf, hn, hQ⟩ := h; rfl
  obtain ⟨u, v, e, f, n, rfl, hu, hv, oke, okf, hn, hQ⟩ := h
  refine ⟨_, (pss_one (ps_ret (pe_chain op_le op_lt pe_int (pe_df D_gap_size (hr.mono (by decide)) (by rfl) passLA (pa_cons (pv 0) (pa_cons (pv 1) pa_nil))) (pe_op op_sub (pe_df D_entry_key (hr.mono (by decide)) (by rfl) passLA (pa_cons (pv 1) pa_nil)) (pe_df D_entry_key (hr.mono (by decide)) (by rfl) passLA (pa_cons (pv 0) pa_nil)))))), ?_⟩
  obtain ⟨a, x, y, eu, ha, hx, hy⟩ := id hu
  obtain ⟨b, x', y', ev, hb, hx', hy'⟩ := id hv
  refine ⟨_, rfl, _, rfl, a, b, e.p, f.p, x, _, _, by rw [eu, ev], ha, hb, ?_⟩
  refine ⟨_, _, rfl, rfl, _, rfl, ?_⟩
  have eg : f.p - e.p - b2 (!decide (x = V.non)) = gapE e f := by
    rw [hx.isN]
    unfold gapE
    cases e.o <;> rfl
  rw [eg]
  by_cases h1 : 0 ≤ gapE e f
  · refine ifT (decide_eq_true h1) ?_
    refine ⟨_, rfl, v, f, n, rfl, hv, okf.key, hn, ?_⟩
    refine ⟨_, rfl, u, e, n, rfl, hu, oke.key, hn, ?_⟩
    refine ⟨_, _, rfl, rfl, _, _, rfl, rfl, ?_⟩
    have ed : decide (gapE e f < f.key - e.key) = decide (InOrd e f) := by
      unfold InOrd
      simp [h1]
    show Q (.bl (decide (gapE e f < f.key - e.key))) H
    rw [ed]
    exact hQ
  · refine ifF (decide_eq_false h1) ?_
    have ed : decide (InOrd e f) = false := decide_eq_false fun z => h1 z.1
    rw [ed] at hQ
    exact hQ
def spIsEntry (K : Fg) : Sp := fun vs H Q _ => ∃ (v : V) (e : Ent) (n : Nat), vs = [v, .int (n : Int)] ∧ VE K H v e ∧ EntOk n e ∧ 1 ≤ n ∧ n ≤ 1000 ∧ ∀ H', Ex H H' → Q (.bl true) H'
theorem ok_is_entry {w : World} {K : Fg} {mg : Str → Option Value} {base : Heap} (T : Top K mg) (D_is_integer : Df PR w K mg base 1 "is_integer" [] spIsInt) (D_is_row : Df PR w K mg base 2 "is_row" [] (spIsRow K)) : FnA PR w K mg base 3 (He.ga K "is_entry") [] ((spIsEntry K)) := by
  obtain ⟨_, fd, F⟩ := T.f_is_entry
  refine fna_d0 F sc_is_entry (fun vs H Q E h => ?_) (fun _ _ _ _ _ _ us hl => match us, hl with | [_, _], _ => rfl) (fun cdv A outer s H vs Q E hr h => ?_)
  · obtain ⟨v, e, n, rfl, ⟨a, x, y, rfl, hS, hx, hy⟩, ok, hn, hn2, hQ⟩ := h; rfl
  obtain ⟨v, e, n, rfl, ⟨a, x, y, rfl, hS, hx, hy⟩, ok, hn, hn2, hQ⟩ := h
  refine ⟨_, (pss_cons (ps_if (PW.pt (pw_or (pt_not (pt_val (pe_callB call_isi (by rfl) T.b_isinstance (by decide +kernel) (pa_cons (pv 0) (pa_cons (pe_bltn (v := .ty "tuple") (u := .type "tuple") (by rfl) T.b_tuple (by decide +kernel) rfl) pa_nil))))) (pw_or1 (pt_cmpR op_ne (pe_callB call_len_seq (by rfl) T.b_len (by decide +kernel) (pa_cons (pv 0) pa_nil)) pe_int (nomark _))))) (pss_one (ps_ret pe_bl)) pss_nil)
    (pss_cons (ps_asg (pv 0) (pg_tup (by rfl) (pgs_cons (pg_name (i := 2) sc_is_entry.nd rfl (Or.inl rfl)) (pgs_cons (pg_name (i := 3) sc_is_entry.nd rfl (Or.inl rfl)) (pgs_cons (pg_name (i := 4) sc_is_entry.nd rfl (Or.inl rfl)) pgs_nil)))))
    (pss_cons (ps_if (PW.pt (pw_or (pt_not (pt_val (pe_df D_is_integer (hr.mono (by decide)) (by rfl) passLA (pa_cons (pv 2) pa_nil)))) (pw_or1 (pt_cmpR op_lt (pv 2) pe_int (nomark _))))) (pss_one (ps_ret pe_bl)) pss_nil)
    (pss_cons (ps_for poOf rfl (pi_tup (pe_tup (pa_cons (pv 3) (pa_cons (pv 4) pa_nil)))) (pg_name (i := 5) sc_is_entry.nd rfl (Or.inl rfl)) (pss_one (ps_if (PW.pt (pw_and (pt_cmpR op_notN (pv 5) pe_non (nomark _)) (pw_and1 (pt_not (pt_val (pe_df D_is_row (hr.mono (by decide)) (by rfl) passLA (pa_cons (pv 5) (pa_cons (pv 1) pa_nil)))))))) (pss_one (ps_ret pe_bl)) pss_nil)))
    (pss_cons (ps_if (PW.pt (pw_or (pt_cmpR op_isN (pv 3) pe_non (nomark _)) (pw_or1 (pt_cmpR op_isN (pv 4) pe_non (nomark _))))) (pss_one (ps_ret (pe_or (pe_cmpR op_notN (pv 3) pe_non (nomark _)) (pe_one (pe_cmpR op_notN (pv 4) pe_non (nomark _)))))) pss_nil)
    (pss_one (ps_ret (pe_and (pe_cmpR op_eq (pe_ix ix_tup (pv 3) pe_int (fun _ _ => rfl)) (pe_ix ix_tup (pv 4) pe_int (fun _ _ => rfl)) (nomark _)) (pe_one (pe_cmpR (op_neD hr.units) (pv 3) (pv 4) (nomark _))))))))))), ?_⟩
  refine ⟨_, rfl, _, _, _, _, _, rfl, .ty _, tyT hS, kit_tt, true, rfl, ?_⟩
  refine iteF ⟨_, rfl, _, _, rfl, .inr hS, rfl, _, rfl, ?_⟩
  refine iteNS rfl ?_
  refine ⟨_, rfl, a, _, rfl, hS, rfl, _, _, rfl, _, _, rfl, _, _, rfl, rfl, ?_⟩
  refine ⟨_, rfl, _, rfl, true, rfl, ?_⟩
  refine iteF ⟨_, rfl, _, _, rfl, rfl, _, rfl, ?_⟩
  refine ifF (decide_eq_false (by have := ok.p; omega)) ?_
  refine ⟨_, rfl, _, rfl, sz2, fun t ht => ⟨_, rfl, ⟨_, st_of upd_same⟩, ?_⟩⟩
  refine for_tup (K := K) (a := t) (xs := [x, y]) (fun i σ H' => Ex H H' ∧ H' t = some (.tup [x, y]) ∧ ∃ m, σ = [some (.ref a), some (.int (n : Int)), some (.int e.p), some x, some y, m]) ⟨Ex.new ht, upd_same, _, rfl⟩ (fun i σ H' _ p => st_of p.2.1) ?_ ?_
  · rintro i z σ H' hz ⟨e1, ht', m, rfl⟩
    have hrow : ∃ r : Option Rwv, VO K H z r ∧ ORowOk n r := by
      match i, hz with
      | 0, hz => exact ⟨e.o, by rw [← Option.some.inj hz]; exact hx, ok.o⟩
      | 1, hz => exact ⟨e.n, by rw [← Option.some.inj hz]; exact hy, ok.n⟩
    obtain ⟨r, hr, hok⟩ := hrow
    refine ⟨_, rfl, rfl, _, rfl, ?_⟩
    rw [hr.isN]
    cases r with
    | none =>
      refine ifF rfl (iteF ⟨e1, ht', _, rfl⟩)
    | some r =>
      obtain ⟨b, rfl, hb⟩ := hr
      have el : r.length = n := hok
      refine ifT rfl ⟨_, rfl, _, rfl, b, r, (n : Int), rfl, ex_t e1 hb, by omega, fun H2 e2 => ⟨_, rfl, ?_⟩⟩
      refine ifF (by rw [el, decide_eq_true rfl]; rfl) ⟨e1.trans e2, e2 _ _ ht', _, rfl⟩
  · rintro σ H' ⟨e1, ht', m, rfl⟩
    have hx' := hx.ex (ExN.of e1)
    have hy' := hy.ex (ExN.of e1)
    refine ⟨_, rfl, rfl, _, rfl, ?_⟩
    rw [hx.isN]
    cases ho : e.o with
    | none =>
      refine ifT rfl ?_
      refine ifT rfl ?_
      refine ⟨_, rfl, rfl, _, rfl, ?_⟩
      rw [hx.isN, ho]
      refine ifF rfl ⟨_, rfl, rfl, ?_⟩
      rw [hy.isN]
      cases hnn : e.n with
      | none =>
        have k := ok.k
        rw [ho, hnn] at k
        exact k.elim
      | some r => exact hQ H' e1
    | some ro =>
      refine ifF rfl ⟨_, rfl, rfl, _, rfl, ?_⟩
      rw [hy.isN]
      cases hnn : e.n with
      | none =>
        refine ifT rfl ⟨_, rfl, rfl, _, rfl, ?_⟩
        rw [hx.isN, ho]
        exact ifT rfl (hQ H' e1)
      | some rn =>
        refine ifF rfl ?_
        have k := ok.k
        rw [ho, hnn] at k
        have oo := ok.o
        have on := ok.n
        rw [ho] at oo hx'
        rw [hnn] at on hy'
        obtain ⟨b, eb, hb⟩ := id hx'
        obtain ⟨c, ec, hc⟩ := id hy'
        refine ⟨_, rfl, _, _, _, _, eb, rfl, hb, atI0 (row0 oo hn), ?_⟩
        refine ⟨_, rfl, _, _, _, _, ec, rfl, hc, atI0 (row0 on hn), rfl, _, rfl, ?_⟩
        refine ifT (by rw [k.1]; exact decide_eq_true rfl) ⟨_, rfl, _, rfl, ?_⟩
        refine rNe_rows (a := some ro) (b := some rn) hx' hy' ?_
        rw [decide_eq_false (fun z => k.2 (Option.some.inj z))]
        exact hQ H' e1
def spCheckEntries (K : Fg) : Sp := fun vs H Q _ => ∃ (L : Bool) (a : Addr) (us : List V) (es : List Ent) (n : Nat), vs = [.int (n : Int), .ref a] ∧ EnS K L a us H ∧ All2 (VE K H) us es ∧ 1 ≤ n ∧ n ≤ 1000 ∧ EntsOk n es ∧ es.length ≤ 100000 ∧
  ∀ l H', H l = none → Ex H H' → H' l = some (.lst us) → Q (.ref l) H'
theorem ok_check_entries {w : World} {K : Fg} {mg : Str → Option Value} {base : Heap} (T : Top K mg) (D_is_entry : Df PR w K mg base 3 "is_entry" [] (spIsEntry K)) (D_in_order : Df PR w K mg base 2 "in_order" [] (spInOrd K)) : FnA PR w K mg base 4 (He.ga K "check_entries") [] ((spCheckEntries K)) := by
  obtain ⟨_, fd, F⟩ := T.f_check_entries
  refine fna_d0 F sc_check_entries (fun vs H Q E h => ?_) (fun _ _ _ _ _ _ us hl => match us, hl with | [_, _], _ => rfl) (fun cdv A outer s H vs Q E hr h => ?_)
  · obtain ⟨L, a, us, es, n, rfl, hS, hv, hn, hn2, ok, hz, hQ⟩ := h; rfl
  obtain ⟨L, a, us, es, n, rfl, hS, hv, hn, hn2, ok, hz, hQ⟩ := h
  refine ⟨_, (pss_cons (ps_set (i := 2) sc_check_entries.nd rfl (Or.inl rfl) (pe_lst pa_nil))
    (pss_cons (ps_for poOf rfl (pi_enA (by rfl) T.b_enumerate (pa_cons (pv 1) pa_nil)) (pg_tup (by rfl) (pgs_cons (pg_name (i := 3) sc_check_entries.nd rfl (Or.inl rfl)) (pgs_cons (pg_name (i := 4) sc_check_entries.nd rfl (Or.inl rfl)) pgs_nil))) (pss_cons (ps_if (pt_not (pt_val (pe_df D_is_entry (hr.mono (by decide)) (by rfl) passLA (pa_cons (pv 4) (pa_cons (pv 0) pa_nil))))) (pss_one ps_never) pss_nil)
    (pss_cons (ps_if (PW.pt (pw_and (pt_cmpR op_gt (pv 3) pe_int (nomark _)) (pw_and1 (pt_not (pt_val (pe_df D_in_order (hr.mono (by decide)) (by rfl) passLA (pa_cons (pe_ix ix_list (pv 2) (pe_un un_neg pe_int) (fun _ _ => rfl)) (pa_cons (pv 4) pa_nil)))))))) (pss_one ps_never) pss_nil)
    (pss_one (ps_expr (pe_bm PySem.F.plainAttrs_list PySem.F.slot_list_append PySem.F.type_list_append mt_append (pv 2) (pa_cons (pv 4) pa_nil)))))))
    (pss_one (ps_ret (pv 2))))), ?_⟩
  refine ⟨Nat.zero_le _, fun D hD => ?_⟩
  refine ⟨_, rfl, L, a, us, rfl, enS_ex (Ex.new hD) hS, ?_⟩
  refine for_enA (K := K) (L := L) (a := a) (xs := us) (fun i σ H' => Ex H H' ∧ H' D = some (.lst (us.take i)) ∧ ∃ m1 m2, σ = [some (.int (n : Int)), some (.ref a), some (.ref D), m1, m2]) ⟨Ex.new hD, upd_same, _, _, rfl⟩ (fun i σ H' _ p => enS_ex p.1 hS) ?_ ?_
  · rintro i x σ H' hx ⟨e, hD', m1, m2, rfl⟩ T hT
    refine ⟨T, _, rfl, st_of upd_same, rfl, _, _, rfl, _, _, rfl, rfl, ?_⟩
    obtain ⟨r, hr0, hvr⟩ := hv.get hx
    have e1 : Ex H (upd H' T (.tup [.int (i : Nat), x])) := e.trans (Ex.new hT)
    have rok : EntOk n r := ok.all r (List.mem_of_getElem? hr0)
    have hTD : D ≠ T := ne_of_none hD' hT
    refine ⟨_, rfl, _, rfl, x, r, n, rfl, hvr.ex (ExN.of e1), rok, hn, hn2, fun H2 e2 => ⟨true, rfl, ?_⟩⟩
    refine iteF ?_
    have hD2 : H2 D = some (.lst (us.take i)) := e2 _ _ (by rw [upd_ne hTD]; exact hD')
    have eH2 := e1.trans e2
    refine ⟨_, rfl, _, _, rfl, rfl, _, rfl, ?_⟩
    refine (fun fin => ite2 (fun h => ?_) fun _ => iteF fin) ?_
    · have hi : 0 < i := by have := of_decide_eq_true h; omega
      obtain ⟨j, rfl⟩ : ∃ j, i = j + 1 := ⟨i - 1, by omega⟩
      have hlt := (List.getElem?_eq_some_iff.mp hx).1
      have hy : us[j]? = some us[j] := List.getElem?_eq_getElem (by omega)
      obtain ⟨r', hr1, hvr'⟩ := hv.get hy
      have rok' : EntOk n r' := ok.all r' (List.mem_of_getElem? hr1)
      refine ⟨_, rfl, _, rfl, _, _, _, _, rfl, rfl, sq_of hD2, atI_take hy, ?_⟩
      refine ⟨_, rfl, _, _, r', r, n, rfl, hvr'.ex (ExN.of eH2), hvr.ex (ExN.of eH2), rok', rok, hn, _, rfl, ?_⟩
      exact ifF (by rw [decide_eq_true (ok.ord.get hr1 hr0)]; rfl) fin
    · refine ⟨_, rfl, .inl ⟨rfl, _, sq_of hD2⟩, _, rfl, D, _, _, rfl, rfl, hD2, ?_, ?_⟩
      · have hlt := (List.getElem?_eq_some_iff.mp hx).1
        rw [List.length_take]
        have := hv.len
        exact Nat.lt_of_le_of_lt (Nat.min_le_left _ _) (szK (by omega))
      · exact ⟨Ex.mut eH2 hD, by rw [upd_same, take_snoc hx], _, _, rfl⟩
  · rintro σ H' ⟨e, hD', m1, m2, rfl⟩
    rw [List.take_length] at hD'
    exact ⟨_, rfl, hQ D H' hD e hD'⟩

end Kx

end

section
set_option Elab.async false
set_option linter.all false
set_option maxRecDepth 100000
set_option maxHeartbeats 4000000
namespace Kx
open PySem PySem.Spec PyProof.Rows L2 Evl Pl
/-! ### joins -/
def spTurned (K : Fg) : Sp := fun vs H Q _ => ∃ (a : Addr) (us : List V) (es : List Ent), vs = [.ref a] ∧ SqL K H a us ∧ All2 (VE K H) us es ∧ es.length ≤ 100000 ∧
  ∀ l ws H', H l = none → Ex H H' → H' l = some (.lst ws) → All2 (VE K H') ws (turnedM es) → Q (.ref l) H'
theorem ok_turned {w : World} {K : Fg} {mg : Str → Option Value} {base : Heap} (T : Top K mg) (D_entry_growth : Df PR w K mg base 1 "entry_growth" [] (spGrow K)) : FnA PR w K mg base 2 (He.ga K "turned") [] ((spTurned K)) := by
  obtain ⟨_, fd, F⟩ := T.f_turned
  refine fna_d0 F sc_turned (fun vs H Q E h => ?_) (fun _ _ _ _ _ _ us hl => match us, hl with | [_], _ => rfl) (fun cdv A outer s H vs Q E hr h => ?_)
  · obtain ⟨a, us, es, rfl, hS, hv, hz, hQ⟩ := h; rfl
  obtain ⟨a, us, es, rfl, hS, hv, hz, hQ⟩ := h
  refine ⟨_, (pss_cons (ps_set (i := 1) sc_turned.nd rfl (Or.inl rfl) pe_int)
    (pss_cons (ps_set (i := 2) sc_turned.nd rfl (Or.inl rfl) (pe_lst pa_nil))
    (pss_cons (ps_for poOf rfl (pi_list (pv 0)) (pg_name (i := 3) sc_turned.nd rfl (Or.inl rfl)) (pss_cons (ps_asg (pv 3) (pg_tup (by rfl) (pgs_cons (pg_name (i := 4) sc_turned.nd rfl (Or.inl rfl)) (pgs_cons (pg_name (i := 5) sc_turned.nd rfl (Or.inl rfl)) (pgs_cons (pg_name (i := 6) sc_turned.nd rfl (Or.inl rfl)) pgs_nil)))))
    (pss_cons (ps_expr (pe_bm PySem.F.plainAttrs_list PySem.F.slot_list_append PySem.F.type_list_append mt_append (pv 2) (pa_cons (pe_tup (pa_cons (pe_op op_add (pv 4) (pv 1)) (pa_cons (pv 6) (pa_cons (pv 5) pa_nil)))) pa_nil)))
    (pss_one (ps_set (i := 1) sc_turned.nd rfl (Or.inl rfl) (pe_op op_add (pv 1) (pe_df D_entry_growth (hr.mono (by decide)) (by rfl) passLA (pa_cons (pv 3) pa_nil))))))))
    (pss_one (ps_ret (pv 2)))))), ?_⟩
  refine ⟨Nat.zero_le _, fun D hD => ?_⟩
  refine ⟨_, rfl, a, rfl, ⟨us, ex_l (Ex.new hD) hS⟩, ?_⟩
  refine for_list (K := K) (a := a) (xs := us) (fun i σ H' => Ex H H' ∧ (∃ ws, H' D = some (.lst ws) ∧ All2 (VE K H') ws ((turnedM es).take i)) ∧ ∃ m1 m2 m3 m4, σ = [some (.ref a), some (.int (gsum es i)), some (.ref D), m1, m2, m3, m4])
    ⟨Ex.new hD, ⟨[], upd_same, .nil⟩, _, _, _, _, rfl⟩ (fun i σ H' _ p => ex_l p.1 hS) ?_ ?_
  · rintro i x σ H' hx ⟨e, ⟨ws, hD', hws⟩, m1, m2, m3, m4, rfl⟩
    obtain ⟨en, he, hve⟩ := hv.get hx
    have hve' := hve.ex (ExN.of e)
    obtain ⟨b, x1, x2, rfl, hb, h1, h2⟩ := id hve'
    refine ⟨_, rfl, b, _, rfl, hb, rfl, _, _, rfl, _, _, rfl, _, _, rfl, rfl, ?_⟩
    refine ⟨_, rfl, .inl ⟨rfl, _, sq_of hD'⟩, ?_⟩
    refine ⟨_, rfl, _, rfl, _, _, rfl, rfl, _, rfl, _, rfl, sz3, fun t ht => ?_⟩
    have hlt := (List.getElem?_eq_some_iff.mp hx).1
    have h6 := hv.len
    have hDt : D ≠ t := ne_of_none hD' ht
    have hD2 : (upd H' t (.tup [.int (en.p + gsum es i), x2, x1])) D = some (.lst ws) := by rw [upd_ne hDt]; exact hD'
    have hwl : ws.length = i := by
      have h3 := hws.len
      have h4 := hv.len
      rw [List.length_take] at h3
      have h5 : (turnedM es).length = es.length := turnG_len
      omega
    refine ⟨D, ws, _, rfl, rfl, hD2, szK (by omega), ?_⟩
    have eN : ExN H' (upd (upd H' t (.tup [.int (en.p + gsum es i), x2, x1])) D (.lst (ws ++ [.ref t]))) := (ExN.of (Ex.new ht)).trans (ExN.list hD2)
    refine ⟨_, rfl, _, rfl, _, en, rfl, hve'.ex eN, _, _, rfl, rfl, ?_⟩
    refine ⟨Ex.mut (e.trans (Ex.new ht)) hD, ⟨_, upd_same, ?_⟩, _, _, _, _, by rw [gsum_succ he]; rfl⟩
    have hg : (turnedM es)[i]? = some ⟨en.p + (0 + gsum es i), en.n, en.o⟩ := turnG_get he
    rw [take_snoc hg]
    refine (ves_ex eN hws).app (.cons ⟨t, x2, x1, rfl, ?_, h2.ex eN, h1.ex eN⟩ .nil)
    have ht2 : (upd (upd H' t (.tup [.int (en.p + gsum es i), x2, x1])) D (.lst (ws ++ [.ref t]))) t = some (.tup [.int (en.p + gsum es i), x2, x1]) := by rw [upd_ne (Ne.symm hDt), upd_same]
    have e0 : en.p + (0 + gsum es i) = en.p + gsum es i := by omega
    show SqT K _ t [.int (en.p + (0 + gsum es i)), x2, x1]
    rw [e0]
    exact st_of ht2
  · rintro σ H' ⟨e, ⟨ws, hD', hws⟩, m1, m2, m3, m4, rfl⟩
    have h5 : us.length = (turnedM es).length := by
      rw [hv.len]
      exact turnG_len.symm
    rw [h5, List.take_length] at hws
    exact ⟨_, rfl, hQ D ws H' hD e hD' hws⟩
def spLink (K : Fg) : Sp := fun vs H Q E => ∃ (u v : V) (g : Int) (oe fe : Option Ent), vs = [u, v, .int g] ∧ VOE K H u oe ∧ VOE K H v fe ∧ (oe = none → fe = none → False) ∧
  (∀ L t H', linkM oe fe g = some L → Ex H H' → VL K H' t L → Q t H') ∧ (linkM oe fe g = none → E (.ref (He.ga K "DoesNotFollow")) none H)
theorem ok_make_link {w : World} {K : Fg} {mg : Str → Option Value} {base : Heap} (T : Top K mg)  : FnA PR w K mg base 2 (He.ga K "make_link") [] ((spLink K)) := by
  obtain ⟨_, fd, F⟩ := T.f_make_link
  refine fna_d0 F sc_make_link (fun vs H Q E h => ?_) (fun _ _ _ _ _ _ us hl => match us, hl with | [_, _, _], _ => rfl) (fun cdv A outer s H vs Q E hr h => ?_)
  · obtain ⟨u, v, g, oe, fe, rfl, hu, hv, hne, hQ, hE⟩ := h; rfl
  obtain ⟨u, v, g, oe, fe, rfl, hu, hv, hne, hQ, hE⟩ := h
  refine ⟨_, (pss_cons (ps_if (pt_cmpR op_isN (pv 1) pe_non (nomark _)) (pss_cons (ps_asg (pv 0) (pg_tup (by rfl) (pgs_cons (pg_name (i := 3) sc_make_link.nd rfl (Or.inl rfl)) (pgs_cons (pg_name (i := 4) sc_make_link.nd rfl (Or.inl rfl)) (pgs_cons (pg_name (i := 5) sc_make_link.nd rfl (Or.inl rfl)) pgs_nil)))))
    (pss_one (ps_ret (pe_tup (pa_cons (pv 3) (pa_cons (pv 4) (pa_cons (pv 5) (pa_cons (pv 5) pa_nil)))))))) pss_nil)
    (pss_cons (ps_asg (pv 1) (pg_tup (by rfl) (pgs_cons (pg_name (i := 3) sc_make_link.nd rfl (Or.inl rfl)) (pgs_cons (pg_name (i := 4) sc_make_link.nd rfl (Or.inl rfl)) (pgs_cons (pg_name (i := 5) sc_make_link.nd rfl (Or.inl rfl)) pgs_nil)))))
    (pss_cons (ps_if (pt_cmpR op_isN (pv 0) pe_non (nomark _)) (pss_one (ps_ret (pe_tup (pa_cons (pe_op op_sub (pv 3) (pv 2)) (pa_cons (pv 4) (pa_cons (pv 4) (pa_cons (pv 5) pa_nil))))))) pss_nil)
    (pss_cons (ps_if (PW.pt (pw_or (pt_cmpR (op_neD hr.units) (pe_ix ix_tup (pv 0) pe_int (fun _ _ => rfl)) (pv 4) (nomark _)) (pw_or1 (pt_cmpR op_ne (pe_op op_add (pe_ix ix_tup (pv 0) pe_int (fun _ _ => rfl)) (pv 2)) (pv 3) (nomark _))))) (pss_one (ps_raise rfl tkOf (pmk_own PySem.F.excBase_ValueError T.x_DoesNotFollow.1 T.g_DoesNotFollow T.x_DoesNotFollow.2.1 (raises_own T.x_DoesNotFollow.2.2.1 T.x_DoesNotFollow.2.2.2) (by rfl)))) pss_nil)
    (pss_one (ps_ret (pe_tup (pa_cons (pe_ix ix_tup (pv 0) pe_int (fun _ _ => rfl)) (pa_cons (pe_ix ix_tup (pv 0) pe_int (fun _ _ => rfl)) (pa_cons (pv 4) (pa_cons (pv 5) pa_nil))))))))))), ?_⟩
  refine ⟨_, rfl, rfl, _, rfl, ?_⟩
  rw [hv.isN]
  cases fe with
  | none =>
    cases oe with
    | none => exact (hne rfl rfl).elim
    | some e =>
      obtain ⟨b, x, y, rfl, hb, hx, hy⟩ := hu
      refine ifT rfl ⟨_, rfl, b, _, rfl, hb, rfl, _, _, rfl, _, _, rfl, _, _, rfl, rfl, ?_⟩
      refine ⟨_, rfl, _, rfl, _, rfl, _, rfl, sz4, fun t ht => ?_⟩
      exact hQ _ _ _ rfl (Ex.new ht) ⟨t, x, y, y, rfl, st_of upd_same, hx.ex (ExN.of (Ex.new ht)), hy.ex (ExN.of (Ex.new ht)), hy.ex (ExN.of (Ex.new ht))⟩
  | some f =>
    obtain ⟨c, x', y', rfl, hc, hx', hy'⟩ := hv
    refine ifF rfl ⟨_, rfl, c, _, rfl, hc, rfl, _, _, rfl, _, _, rfl, _, _, rfl, rfl, ?_⟩
    refine ⟨_, rfl, rfl, _, rfl, ?_⟩
    rw [hu.isN]
    cases oe with
    | none =>
      refine ifT rfl ⟨_, rfl, _, rfl, _, _, rfl, rfl, _, rfl, _, rfl, _, rfl, sz4, fun t ht => ?_⟩
      exact hQ _ _ _ rfl (Ex.new ht) ⟨t, x', x', y', rfl, st_of upd_same, hx'.ex (ExN.of (Ex.new ht)), hx'.ex (ExN.of (Ex.new ht)), hy'.ex (ExN.of (Ex.new ht))⟩
    | some e =>
      obtain ⟨b, x, y, rfl, hb, hx, hy⟩ := hu
      refine ifF rfl ⟨_, rfl, _, _, _, _, rfl, rfl, hb, atI2 rfl, _, rfl, ?_⟩
      refine rNe_rows hy hx' ⟨_, rfl, ?_⟩
      have fin : ¬ (e.n ≠ f.o ∨ e.p + g ≠ f.p) → ∀ t, H t = none → Q (.ref t) (upd H t (.tup [.int e.p, x, x', y'])) := fun hc t ht =>
        hQ ⟨e.p, e.o, f.o, f.n⟩ _ _ (by show (if e.n ≠ f.o ∨ e.p + g ≠ f.p then none else _) = _; rw [if_neg hc]) (Ex.new ht) ⟨t, x, x', y', rfl, st_of upd_same, hx.ex (ExN.of (Ex.new ht)), hx'.ex (ExN.of (Ex.new ht)), hy'.ex (ExN.of (Ex.new ht))⟩
      by_cases h1 : e.n = f.o
      · refine ifF (by rw [decide_eq_true h1]; rfl) ⟨_, rfl, _, _, _, _, rfl, rfl, hb, atI0 rfl, _, rfl, _, _, rfl, rfl, _, rfl, rfl, _, rfl, ?_⟩
        by_cases h2 : e.p + g = f.p
        · refine iteNS (by show V.int (e.p + g) = V.int f.p; rw [h2]) ⟨_, rfl, _, _, _, _, rfl, rfl, hb, atI0 rfl, _, rfl, _, _, _, _, rfl, rfl, hb, atI1 rfl, _, rfl, _, rfl, sz4, fun t ht => ?_⟩
          exact fin (fun z => z.elim (fun z => z h1) fun z => z h2) t ht
        · refine ifT (by show (!decide (V.int (e.p + g) = V.int f.p)) = true; rw [decide_eq_false (fun z => h2 (by injection z))]; rfl) ?_
          exact hE (by show (if e.n ≠ f.o ∨ e.p + g ≠ f.p then none else _) = _; rw [if_pos (.inr h2)])
      · refine ifT (by rw [decide_eq_false h1]; rfl) (ifT rfl ?_)
        exact hE (by show (if e.n ≠ f.o ∨ e.p + g ≠ f.p then none else _) = _; rw [if_pos (.inl h1)])

end Kx

end

section
set_option Elab.async false
set_option linter.all false
set_option maxRecDepth 100000
set_option maxHeartbeats 4000000
namespace Kx
open PySem PySem.Spec PyProof.Rows L2 Evl Pl
def spLinks (K : Fg) : Sp := fun vs H Q E => ∃ (a b : Addr) (us ws : List V) (es fs : List Ent) (n : Nat), vs = [.ref a, .ref b] ∧ SqL K H a us ∧ SqL K H b ws ∧ All2 (VE K H) us es ∧ All2 (VE K H) ws fs ∧ (∀ e ∈ es, KeyOk n e) ∧ (∀ e ∈ fs, KeyOk n e) ∧ 1 ≤ n ∧
  (es.map Ent.key).Pairwise (· < ·) ∧ (fs.map Ent.key).Pairwise (· < ·) ∧ es.length + fs.length < 64 ∧
  (∀ Ls l xs H', linksM es fs = some Ls → H l = none → Ex H H' → H' l = some (.lst xs) → All2 (VL K H') xs Ls → Q (.ref l) H') ∧ (linksM es fs = none → ∀ H', Ex H H' → E (.ref (He.ga K "DoesNotFollow")) none H')
theorem atI_end {α : Type} {xs : List α} {n : Nat} {v : α} (hl : xs.length = n + 1) (h : xs[n]? = some v) : atI xs (-1) = some v := by
  have z := atI_take h
  rw [← hl, List.take_length] at z
  exact z
/-- the last key, as the program holds it -/
def lastV : Option (Int × Lnk) → V
  | none => .non
  | some (l, _) => .int l
def PrevOk (prev : Option (Int × Lnk)) (Ls : List Lnk) : Prop := match prev with
  | none => Ls = []
  | some (_, P) => ∃ Ls', Ls = Ls' ++ [P]
theorem gb_none {prev : Option (Int × Lnk)} {k : Int} {L : Lnk} (h : ¬ (!decide (lastV prev = V.non)) = true) : gapBad prev k L = false := by
  cases prev with
  | none => rfl
  | some p => exact absurd rfl h
theorem ok_links {w : World} {K : Fg} {mg : Str → Option Value} {base : Heap} (T : Top K mg) (D_entry_key : Df PR w K mg base 1 "entry_key" [] (spKey K)) (D_entry_growth : Df PR w K mg base 1 "entry_growth" [] (spGrow K)) (D_gap_size : Df PR w K mg base 1 "gap_size" [] (spGap K)) (D_make_link : Df PR w K mg base 2 "make_link" [] (spLink K)) : FnA PR w K mg base 3 (He.ga K "links") [] ((spLinks K)) := by
  obtain ⟨_, fd, F⟩ := T.f_links
  refine fna_d0 F sc_links (fun vs H Q E h => ?_) (fun _ _ _ _ _ _ us hl => match us, hl with | [_, _], _ => rfl) (fun cdv A outer s H vs Q E hr h => ?_)
  · obtain ⟨a, b, us, ws, es, fs, n, rfl, hA, hB, hv, hw, ke, kf, hn, pe, pf, hz, hQ, hE⟩ := h; rfl
  obtain ⟨a, b, us, ws, es, fs, n, rfl, hA, hB, hv, hw, ke, kf, hn, pe, pf, hz, hQ, hE⟩ := h
  refine ⟨_, (pss_cons (ps_setDc (i := 2) (own := [("entry", 9)]) (g := gName 9) (tt := tYes) rfl sc_links.nd rfl rfl (sw_dict rfl rfl rfl (by decide +kernel)) (pi_list (pv 0)) (blkOk_by (own := [("entry", 9)]) (N := ["first", "second", "ours", "theirs", "growth", "last", "result", "key", "link", "entry"]) (sc := defScope s_links) (by decide +kernel)) (fun _ _ _ _ _ => (pg_name (i := 9) sc_links.nd rfl (Or.inl rfl))) (fun _ _ _ _ _ => pts_nil) (fun _ _ _ _ _ => (pe_df D_entry_key (hr.mono (by decide)) (by rfl) passLA (pa_cons (pv 9) pa_nil))) (fun _ _ _ _ _ => (pv 9)))
    (pss_cons (ps_setDc (i := 3) (own := [("entry", 9)]) (g := gName 9) (tt := tYes) rfl sc_links.nd rfl rfl (sw_dict rfl rfl rfl (by decide +kernel)) (pi_list (pv 1)) (blkOk_by (own := [("entry", 9)]) (N := ["first", "second", "ours", "theirs", "growth", "last", "result", "key", "link", "entry"]) (sc := defScope s_links) (by decide +kernel)) (fun _ _ _ _ _ => (pg_name (i := 9) sc_links.nd rfl (Or.inl rfl))) (fun _ _ _ _ _ => pts_nil) (fun _ _ _ _ _ => (pe_df D_entry_key (hr.mono (by decide)) (by rfl) passLA (pa_cons (pv 9) pa_nil))) (fun _ _ _ _ _ => (pv 9)))
    (pss_cons (ps_set (i := 4) sc_links.nd rfl (Or.inl rfl) pe_int)
    (pss_cons (ps_set (i := 5) sc_links.nd rfl (Or.inl rfl) pe_non)
    (pss_cons (ps_set (i := 6) sc_links.nd rfl (Or.inl rfl) (pe_lst pa_nil))
    (pss_cons (ps_for poOf rfl (pi_list (pe_callB (cr_sortedSet rfl) (by rfl) T.b_sorted (by decide +kernel) (pa_cons (pe_scI (own := [("entry", 9)]) (g := gName 9) (tt := tYes) rfl sc_links.nd (pi_list (pe_lst (StX.pa_star (pv 0) (StX.pa_star (pv 1) pa_nil)))) (blkOk_by (own := [("entry", 9)]) (N := ["first", "second", "ours", "theirs", "growth", "last", "result", "key", "link", "entry"]) (sc := defScope s_links) (by decide +kernel)) (fun _ _ _ _ _ => (pg_name (i := 9) sc_links.nd rfl (Or.inl rfl))) (fun _ _ _ _ _ => pts_nil) (fun _ _ _ _ _ => (pe_df D_entry_key (hr.mono (by decide)) (by rfl) passLA (pa_cons (pv 9) pa_nil)))) pa_nil))) (pg_name (i := 7) sc_links.nd rfl (Or.inl rfl)) (pss_cons (ps_set (i := 8) sc_links.nd rfl (Or.inl rfl) (pe_df D_make_link (hr.mono (by decide)) (by rfl) (fun σ => passAt tkOf σ) (pa_cons (pe_dget1 (hu_of hr) (pv 2) (pv 7) (by constructor <;> rfl)) (pa_cons (pe_dget1 (hu_of hr) (pv 3) (pv 7) (by constructor <;> rfl)) (pa_cons (pv 4) pa_nil)))))
    (pss_cons (ps_if (PW.pt (pw_and (pt_cmpR op_notN (pv 5) pe_non (nomark _)) (pw_and1 (pt_not (pt_chain op_le op_lt pe_int (pe_df D_gap_size (hr.mono (by decide)) (by rfl) passLA (pa_cons (pe_ix ix_list (pv 6) (pe_un un_neg pe_int) (fun _ _ => rfl)) (pa_cons (pv 8) pa_nil))) (pe_op op_sub (pv 7) (pv 5))))))) (pss_one (ps_raise rfl tkOf (pmk_own PySem.F.excBase_ValueError T.x_DoesNotFollow.1 T.g_DoesNotFollow T.x_DoesNotFollow.2.1 (raises_own T.x_DoesNotFollow.2.2.1 T.x_DoesNotFollow.2.2.2) (by rfl)))) pss_nil)
    (pss_cons (ps_expr (pe_bm PySem.F.plainAttrs_list PySem.F.slot_list_append PySem.F.type_list_append mt_append (pv 6) (pa_cons (pv 8) pa_nil)))
    (pss_cons (ps_set (i := 5) sc_links.nd rfl (Or.inl rfl) (pv 7))
    (pss_one (ps_if (pt_cmp (pc_din (hu_of hr) (pv 7) (pv 2))) (pss_one (ps_set (i := 4) sc_links.nd rfl (Or.inl rfl) (pe_op op_add (pv 4) (pe_df D_entry_growth (hr.mono (by decide)) (by rfl) passLA (pa_cons (pe_dget (hu_of hr) (pv 2) (pv 7) (fun _ _ => rfl)) pa_nil))))) pss_nil)))))))
    (pss_one (ps_ret (pv 6))))))))), ?_⟩
  have lu := hv.len
  have lw := hw.len
  have keyStep : ∀ (es : List Ent) (us : List V) (H1 : Hp), All2 (VE K H1) us es → (∀ e ∈ es, KeyOk n e) → ∀ (i : Nat) x k H2, us[i]? = some x → (es.map Ent.key)[i]? = some k → Ex H1 H2 → ∃ e, VE K H2 x e ∧ KeyOk n e ∧ e.key = k := by
    intro es us H1 hv ke i x k H2 hx hk e2
    obtain ⟨e, he, hve⟩ := hv.get hx
    rw [List.getElem?_map, he] at hk
    exact ⟨e, hve.ex (ExN.of e2), ke e (List.mem_of_getElem? he), Option.some.inj hk⟩
  refine ⟨_, rfl, a, rfl, ⟨us, hA⟩, fun d1 hd1 => ?_⟩
  refine dc_keys (ks := es.map Ent.key) hA (szK (by omega)) hd1 (by rw [List.length_map, lu]) pe (fun _ => rfl) (fun i x k H2 Q' hx hk e2 q => ?_) (fun i x H2 Q' hx e2 q => ⟨_, rfl, q⟩) fun H2 e2 hd1' => ?_
  · obtain ⟨e, h1, h2, h3⟩ := keyStep es us H hv ke i x k H2 hx hk e2
    exact ⟨_, rfl, x, e, n, rfl, h1, h2, hn, by rw [h3]; exact q H2 (Ex.refl _)⟩
  refine ⟨_, rfl, b, rfl, ⟨ws, ex_l e2 hB⟩, fun d2 hd2 => ?_⟩
  refine dc_keys (ks := fs.map Ent.key) (ex_l e2 hB) (szK (by omega)) hd2 (by rw [List.length_map, lw]) pf (fun _ => rfl) (fun i x k H3 Q' hx hk e3 q => ?_) (fun i x H3 Q' hx e3 q => ⟨_, rfl, q⟩) fun H3 e3 hd2' => ?_
  · obtain ⟨e, h1, h2, h3⟩ := keyStep fs ws H hw kf i x k H3 hx hk (e2.trans e3)
    exact ⟨_, rfl, x, e, n, rfl, h1, h2, hn, by rw [h3]; exact q H3 (Ex.refl _)⟩
  have hd1'' := e3 _ _ hd1'
  have eH3 := e2.trans e3
  refine ⟨Nat.zero_le _, fun D hD => ?_⟩
  have hDH : H D = none := fresh_back eH3 hD
  have e4 : Ex H3 (upd H3 D (.lst [])) := Ex.new hD
  refine ⟨_, rfl, a, us, rfl, .inr (ex_l (eH3.trans e4) hA), _, rfl, b, ws, rfl, .inr (ex_l (eH3.trans e4) hB), ?_, fun p hp => ⟨p, rfl, ⟨_, sq_of upd_same⟩, fun S hS => ?_⟩⟩
  · rw [List.append_nil, List.length_append]
    exact Nat.le_of_lt (szK (by omega))
  have hlen : (us ++ (ws ++ [])).length = ((es ++ fs).map Ent.key).length := by
    rw [List.append_nil, List.length_append, List.length_map, List.length_append]
    omega
  have e5 := Ex.new (o := .lst (us ++ (ws ++ []))) hp
  refine sc_keys (w := w) (ks := (es ++ fs).map Ent.key) (sq_of upd_same) (by rw [hlen, List.length_map, List.length_append]; omega) hS hlen.symm (fun _ => rfl) (fun i x k H4 Q' hx hk e6 q => ?_) fun H4 S' m e6 hS' hm hmn => ?_
  · have hall : All2 (VE K H) (us ++ (ws ++ [])) (es ++ fs) := by
      rw [List.append_nil]
      exact hv.app hw
    have hko : ∀ e ∈ es ++ fs, KeyOk n e := fun e he => (List.mem_append.mp he).elim (ke e) (kf e)
    obtain ⟨e, h1, h2, h3⟩ := keyStep (es ++ fs) (us ++ (ws ++ [])) H hall hko i x k H4 hx hk (((eH3.trans e4).trans e5).trans e6)
    exact ⟨_, rfl, x, e, n, rfl, h1, h2, hn, by rw [h3]; exact q H4 (Ex.refl _)⟩
  rw [List.length_map, List.length_append] at hmn
  refine ⟨S, S', m, rfl, hS', by omega, fun ns L pw mem hnlen hL => ⟨L, rfl, ⟨_, sq_of upd_same⟩, ?_⟩⟩
  have hns : ns = keysOf es fs := keysU_rise pw fun x => by rw [mem, hm]
  have eA : Ex H (upd H4 L (.lst (ns.map V.int))) := (((eH3.trans e4).trans e5).trans e6).trans (Ex.new hL)
  have e34 : Ex (upd H3 D (.lst [])) (upd H4 L (.lst (ns.map V.int))) := (e5.trans e6).trans (Ex.new hL)
  have hDl : upd H4 L (.lst (ns.map V.int)) D = some (.lst []) := e34 _ _ upd_same
  have hd1l : upd H4 L (.lst (ns.map V.int)) d1 = some (.dK (dkOf (es.map Ent.key) us)) := e34 _ _ (e4 _ _ hd1'')
  have hd2l : upd H4 L (.lst (ns.map V.int)) d2 = some (.dK (dkOf (fs.map Ent.key) ws)) := e34 _ _ (e4 _ _ hd2')
  have hLl : upd H4 L (.lst (ns.map V.int)) L = some (.lst (ns.map V.int)) := upd_same
  have hDL : L ≠ D := fun z => by
    rw [z] at hL
    have := (e5.trans e6) _ _ (show upd H3 D (.lst []) D = some (.lst []) from upd_same)
    rw [hL] at this
    cases this
  generalize upd H4 L (.lst (ns.map V.int)) = HL at eA e34 hDl hd1l hd2l hLl
  have hD1 : d1 ≠ D := fun z => by rw [z, hDl] at hd1l; cases hd1l
  have hD2 : d2 ≠ D := fun z => by rw [z, hDl] at hd2l; cases hd2l
  refine for_list (K := K) (a := L) (xs := ns.map V.int) (fun i σ H' => ExB D HL H' ∧ Ex H H' ∧ ∃ Ls ws' g prev m7 m8 m9, H' D = some (.lst ws') ∧ All2 (VL K H') ws' Ls ∧ Ls.length = i ∧ PrevOk prev Ls ∧
      linksM es fs = (linksG (findE es) (findE fs) (ns.drop i) g prev).map (Ls ++ ·) ∧ σ = [some (.ref a), some (.ref b), some (.ref d1), some (.ref d2), some (.int g), some (lastV prev), some (.ref D), m7, m8, m9])
    ⟨ExB.refl _ _, eA, [], [], 0, none, _, _, _, hDl, .nil, rfl, rfl, ?_, rfl⟩ (fun i σ H' _ p => sq_of (p.1 _ _ hDL hLl)) ?_ ?_
  · unfold linksM
    rw [← hns, List.drop_zero]
    show _ = Option.map (fun x => [] ++ x) _
    simp
  · rintro i x σ H' hx ⟨eB, eH, Ls, ws', g, prev, m7, m8, m9, hD', hLs, hl, hprev, heq, rfl⟩
    rw [List.getElem?_map] at hx
    obtain ⟨k, hk, rfl⟩ := Option.map_eq_some_iff.mp hx
    have hi := (List.getElem?_eq_some_iff.mp hk).1
    have hdrop : ns.drop i = k :: ns.drop (i + 1) := by
      rw [List.drop_eq_getElem_cons hi, ← Option.some.inj ((List.getElem?_eq_getElem hi).symm.trans hk)]
    rw [hdrop] at heq
    have g1 := eB _ _ hD1 hd1l
    have g2 := eB _ _ hD2 hd2l
    obtain ⟨v1, s1⟩ := get_voe pe (ves_ex (ExN.of eH) hv) k
    obtain ⟨v2, s2⟩ := get_voe pf (ves_ex (ExN.of eH) hw) k
    have hkm : k ∈ (es ++ fs).map Ent.key := by
      have hm2 : k ∈ keysOf es fs := by rw [← hns]; exact List.mem_of_getElem? hk
      exact mem_keysU.mp hm2
    refine ⟨_, rfl, d1, rfl, .inl ⟨_, .inl g1⟩, _, rfl, _, DGet.k (k := Sum.inl k) g1, ?_⟩
    refine ⟨_, rfl, d2, rfl, .inl ⟨_, .inl g2⟩, _, rfl, _, DGet.k (k := Sum.inl k) g2, _, rfl, ?_⟩
    refine ⟨_, _, g, findE es k, findE fs k, rfl, v1, v2, fun z1 z2 => ?_, fun Lk t H2 hlk e7 hVL => ?_, fun hlk => ?_⟩
    · rw [List.map_append, List.mem_append, keyO_eq, keyO_eq, z1, z2] at hkm
      exact hkm.elim (fun z => by cases z) fun z => by cases z
    · have gs : linksM es fs = (match gapBad prev k Lk with
        | true => none
        | false => (linksG (findE es) (findE fs) (ns.drop (i + 1)) (g + growO (findE es k)) (some (k, Lk))).map (Lk :: ·)).map (Ls ++ ·) := by
        rw [heq]
        show Option.map _ (match linkM (findE es k) (findE fs k) g with | none => none | some L => _) = _
        rw [hlk]
        try rfl
      have hD2' := e7 _ _ hD'
      have hd1'' := e7 _ _ g1
      have hlt : ws'.length = i := by rw [hLs.len, hl]
      have hnl : ns.length ≤ 100000 := by omega
      refine ⟨_, rfl, rfl, _, rfl, ?_⟩
      refine (fun (fin : gapBad prev k Lk = false → _) => ite2 (fun h => ?_) fun h => iteF (fin (gb_none h))) fun hgb => ?_
      · cases prev with
        | none => exact absurd h (by decide)
        | some pr =>
          obtain ⟨l, P⟩ := pr
          obtain ⟨Ls', rfl⟩ := hprev
          have hP : (Ls' ++ [P])[Ls'.length]? = some P := by simp
          obtain ⟨vP, hvP, hVP⟩ := hLs.get' hP
          have hVP' := hVP.ex (ExN.of e7)
          obtain ⟨tP, x1, y1, z1, rfl, hP1, hP2, _, _⟩ := hVP'
          obtain ⟨tL, x2, y2, z2, rfl, hL1, _, _, _⟩ := id hVL
          have hat : atI ws' (-1) = some (.ref tP) := atI_end (by rw [hlt, ← hl, List.length_append]; rfl) hvP
          refine ⟨_, rfl, _, rfl, _, _, _, _, rfl, rfl, sq_of hD2', hat, _, rfl, tP, tL, P.p, Lk.p, x1, _, _, rfl, hP1, hL1, ?_⟩
          refine ⟨_, _, rfl, rfl, _, rfl, ?_⟩
          have eg : Lk.p - P.p - b2 (!decide (x1 = V.non)) = gapL P Lk := by
            rw [hP2.isN]
            unfold gapL
            cases P.a <;> rfl
          rw [eg]
          have bad : gapBad (some (l, P)) k Lk = true → E (.ref (He.ga K "DoesNotFollow")) none H2 := fun hb => hE (by rw [gs, hb]; rfl) H2 (eH.trans e7)
          by_cases h1 : 0 ≤ gapL P Lk
          · refine ifT (decide_eq_true h1) ⟨_, rfl, _, rfl, _, _, rfl, rfl, _, _, rfl, rfl, _, rfl, ?_⟩
            by_cases h2 : gapL P Lk < k - l
            · refine ifF (by show (!decide (gapL P Lk < k - l)) = false; rw [decide_eq_true h2]; rfl) (fin ?_)
              show (!(decide (0 ≤ gapL P Lk) && decide (gapL P Lk < k - l))) = false
              rw [decide_eq_true h1, decide_eq_true h2]
              rfl
            · refine ifT (by show (!decide (gapL P Lk < k - l)) = true; rw [decide_eq_false h2]; rfl) (bad ?_)
              show (!(decide (0 ≤ gapL P Lk) && decide (gapL P Lk < k - l))) = true
              rw [decide_eq_false h2, Bool.and_false]
              rfl
          · refine ifF (decide_eq_false h1) ?_
            refine ⟨_, rfl, ?_⟩
            refine ifT rfl (bad ?_)
            show (!(decide (0 ≤ gapL P Lk) && decide (gapL P Lk < k - l))) = true
            rw [decide_eq_false h1]
            rfl
      · refine ⟨_, rfl, .inl ⟨rfl, _, sq_of hD2'⟩, _, rfl, D, ws', _, rfl, rfl, hD2', szK (by omega), ?_⟩
        have eN : ExN H2 (upd H2 D (.lst (ws' ++ [t]))) := ExN.list hD2'
        have hd1u : upd H2 D (.lst (ws' ++ [t])) d1 = some (.dK (dkOf (es.map Ent.key) us)) := by rw [upd_ne hD1]; exact hd1''
        have eHu : Ex H (upd H2 D (.lst (ws' ++ [t]))) := Ex.mut (eH.trans e7) hDH
        refine ⟨_, rfl, ?_⟩
        refine ⟨_, rfl, _, rfl, d1, _, rfl, DGet.k (k := Sum.inl k) hd1u, _, rfl, ?_⟩
        have done : ∀ g', g' = g + growO (findE es k) → ExB D HL (upd H2 D (.lst (ws' ++ [t]))) ∧ Ex H (upd H2 D (.lst (ws' ++ [t]))) ∧ ∃ Ls ws'' g prev n7 n8 n9, upd H2 D (.lst (ws' ++ [t])) D = some (.lst ws'') ∧ All2 (VL K (upd H2 D (.lst (ws' ++ [t])))) ws'' Ls ∧ Ls.length = i + 1 ∧ PrevOk prev Ls ∧
            linksM es fs = (linksG (findE es) (findE fs) (ns.drop (i + 1)) g prev).map (Ls ++ ·) ∧ [some (.ref a), some (.ref b), some (.ref d1), some (.ref d2), some (.int g'), some (.int k), some (.ref D), some (.int k), some t, m9] = [some (.ref a), some (.ref b), some (.ref d1), some (.ref d2), some (.int g), some (lastV prev), some (.ref D), n7, n8, n9] := by
          intro g' hg'
          refine ⟨(eB.ex e7).upd, eHu, Ls ++ [Lk], _, g', some (k, Lk), _, _, _, upd_same, ?_, by rw [List.length_append, hl]; rfl, ⟨Ls, rfl⟩, ?_, rfl⟩
          · exact (hLs.imp fun _ _ z => z.ex ((ExN.of e7).trans eN)).app (.cons (hVL.ex eN) .nil)
          · rw [gs, hgb, hg']
            show Option.map _ (Option.map _ _) = _
            rw [Option.map_map]
            congr 1
            funext z
            show Ls ++ Lk :: z = (Ls ++ [Lk]) ++ z
            rw [List.append_assoc]
            rfl
        refine ite2 (fun h => ?_) fun h => ?_
        · cases hv : valV (dkOf (es.map Ent.key) us) (Sum.inl k) with
          | none =>
            rw [hv] at h
            cases h
          | some v =>
            rw [hv] at v1 s1
            cases hf : findE es k with
            | none =>
              rw [hf] at s1
              cases s1
            | some e =>
              rw [hf] at v1
              have v1' : VE K H' v e := v1
              refine ⟨_, rfl, _, rfl, _, rfl, _, v, rfl, by rw [← hv]; exact DGet.k (k := Sum.inl k) hd1u, v, e, rfl, v1'.ex ((ExN.of e7).trans eN), _, _, rfl, rfl, ?_⟩
              exact done _ (by rw [hf]; rfl)
        · have hf : findE es k = none := by
            cases hf : findE es k with
            | none => rfl
            | some e =>
              rw [hf] at s1
              exact absurd s1 h
          exact done _ (by rw [hf]; show g = g + 0; omega)
    · refine hE ?_ _ eH
      rw [heq]
      show Option.map _ (match linkM (findE es k) (findE fs k) g with | none => none | some L => _) = _
      rw [hlk]
      rfl
  · rintro σ H' ⟨eB, eH, Ls, ws', g, prev, m7, m8, m9, hD', hLs, hl, hprev, heq, rfl⟩
    rw [List.length_map, List.drop_length] at heq
    refine ⟨_, rfl, hQ Ls D ws' H' ?_ hDH eH hD' hLs⟩
    rw [heq]
    show some (Ls ++ []) = _
    rw [List.append_nil]

end Kx

end

section
set_option Elab.async false
set_option linter.all false
set_option maxRecDepth 100000
set_option pp.maxSteps 400
set_option pp.deepTerms false
set_option maxHeartbeats 4000000
namespace Kx
open PySem PySem.Spec PyProof.Rows L2 Evl Pl
/-! ### layers -/
def CL (K : Fg) : Addr := He.ga K "Layer"
theorem iter_Layer {w : World} {K : Fg} {mg : Str → Option Value} {base : Heap} (T : Top K mg) : FnS PR w K mg base (L2.CX PR w) 1 (He.ma K (He.ga K "Layer") "__iter__") (spIter K (He.ga K "Layer") 0) := by
  obtain ⟨_, fd, F⟩ := T.m_Layer_iter
  refine fnS_of F sc_Layer_iter (fun s vs H Q E h => ?_) (F.bindsN fun _ _ _ _ _ _ us hl => match us, hl with | [_], _ => rfl) fun cdv A outer s H vs Q E hr h => ?_
  · obtain ⟨a, dx, sv, l, zs, rfl, _⟩ := h
    rfl
  obtain ⟨a, dx, sv, l, zs, rfl, hsl, hi, hz, hQ⟩ := h
  refine ⟨_, (pss_one (ps_ret (pe_callB ItX.call_iterN (by rfl) T.b_iter (by decide +kernel) (pa_cons (SlX.pe_sl (pv 0)) pa_nil)))), ?_⟩
  exact ⟨_, rfl, a, _, dx, _, sv, 0, _, rfl, hsl, T.c_Layer, T.s_Layer__entries, hi, l, zs, rfl, hz, hQ⟩
theorem ok_Layer_len {w : World} {K : Fg} {mg : Str → Option Value} {base : Heap} (T : Top K mg)  : FnA PR w K mg base 1 (He.ma K (He.ga K "Layer") "__len__") [] ((spLen K (He.ga K "Layer") 0)) := by
  obtain ⟨_, fd, F⟩ := T.m_Layer_len
  refine fna_d0 F sc_Layer_len (fun vs H Q E h => ?_) (fun _ _ _ _ _ _ us hl => match us, hl with | [_], _ => rfl) (fun cdv A outer s H vs Q E hr h => ?_)
  · obtain ⟨a, dx, sv, l, zs, rfl, hsl, hi, hz, hQ⟩ := h; rfl
  obtain ⟨a, dx, sv, l, zs, rfl, hsl, hi, hz, hQ⟩ := h
  refine ⟨_, (pss_one (ps_ret (pe_callB call_len_seq (by rfl) T.b_len (by decide +kernel) (pa_cons (SlX.pe_sl (pv 0)) pa_nil)))), ?_⟩
  exact ⟨_, rfl, a, _, dx, _, sv, 0, _, rfl, hsl, T.c_Layer, T.s_Layer__entries, hi, _, _, rfl, .inl hz, hQ⟩
def spLayInit (K : Fg) : Sp := fun vs H Q _ => ∃ (x dx a : Addr) (L : Bool) (us : List V) (es : List Ent) (n : Nat), vs = [.ref x, .int (n : Int), .ref a] ∧ Fresh H x (He.ga K "Layer") dx ∧ EnS K L a us H ∧ All2 (VE K H) us es ∧ 1 ≤ n ∧ n ≤ 1000 ∧ EntsOk n es ∧ es.length ≤ 100000 ∧
  ∀ H', ExI x dx H H' → VLay K H' (He.ga K "Layer") x n es → Q .non H'
/-- a layer whose lists are new -/
def VLayF (K : Fg) (H H' : Hp) (C x dx : Addr) (n : Nat) (es : List Ent) : Prop := ∃ le lk us, SlX.Slt H' x C dx [some (.ref le), some (.ref lk), some (.int (n : Int))] ∧ H' le = some (.lst us) ∧ All2 (VE K H') us es ∧ H' lk = some (.lst (vis (es.map Ent.key))) ∧ H le = none ∧ H lk = none
theorem VLayF.v {K : Fg} {H H' : Hp} {C x dx : Addr} {n : Nat} {es : List Ent} (h : VLayF K H H' C x dx n es) : VLay K H' C x n es := by
  obtain ⟨le, lk, us, h1, h2, h3, h4, _⟩ := h
  exact ⟨dx, le, lk, us, h1, sq_of h2, h3, sq_of h4⟩
def spLayInitF (K : Fg) : Sp := fun vs H Q _ => ∃ (x dx a : Addr) (L : Bool) (us : List V) (es : List Ent) (n : Nat), vs = [.ref x, .int (n : Int), .ref a] ∧ Fresh H x (He.ga K "Layer") dx ∧ EnS K L a us H ∧ All2 (VE K H) us es ∧ 1 ≤ n ∧ n ≤ 1000 ∧ EntsOk n es ∧ es.length ≤ 100000 ∧
  ∀ H', ExI x dx H H' → VLayF K H H' (He.ga K "Layer") x dx n es → Q .non H'
theorem layInit_weak {K : Fg} {vs : List V} {H : Hp} {Q : VK} {E : XK} (h : spLayInit K vs H Q E) : spLayInitF K vs H Q E := by
  obtain ⟨x, dx, a, L, us, es, n, h1, h2, h3, h4, h5, h6, h7, h8, h9⟩ := h
  exact ⟨x, dx, a, L, us, es, n, h1, h2, h3, h4, h5, h6, h7, h8, fun H' e v => h9 H' e v.v⟩
theorem walk_Layer_init {w : World} {K : Fg} {mg : Str → Option Value} {base : Heap} (T : Top K mg) (D_check_width : Df PR w K mg base 2 "check_width" [] spCheckWidth) (D_check_entries : Df PR w K mg base 4 "check_entries" [] (spCheckEntries K)) (D_entry_key : Df PR w K mg base 1 "entry_key" [] (spKey K)) : Walked PR w K mg base 5 ["self", "width", "entries", "entry"] "Layer.__init__" s_Layer_init (initAt K "Layer") ((spLayInitF K)) := by
  intro cdv A outer s H vs Q E hr h
  obtain ⟨x, dx, a, L, us, es, n, rfl, fr, hS, hv, hn, hn2, ok, hz, hQ⟩ := h
  refine ⟨_, (pss_cons (ps_expr (pe_df D_check_width (hr.mono (by decide)) (by rfl) passLA (pa_cons (pv 1) pa_nil)))
    (pss_cons (SlX.ps_sl (pv 0) (pv 1))
    (pss_cons (SlX.ps_sl (pv 0) (pe_df D_check_entries (hr.mono (by decide)) (by rfl) passLA (pa_cons (pv 1) (pa_cons (pv 2) pa_nil))))
    (pss_one (SlX.ps_sl (pv 0) (pe_lc (own := [("entry", 3)]) (g := gName 3) (tt := tYes) rfl sc_Layer_init.nd (pi_list (SlX.pe_sl (pv 0))) (blkOk_by (own := [("entry", 3)]) (N := ["self", "width", "entries", "entry"]) (sc := defScope s_Layer_init) (by decide +kernel)) (fun _ _ _ _ _ => (pg_name (i := 3) sc_Layer_init.nd rfl (Or.inl rfl))) (fun _ _ _ _ _ => pts_nil) (fun _ _ _ _ _ => (pe_df D_entry_key (hr.mono (by decide)) (by rfl) passLA (pa_cons (pv 3) pa_nil))))))))), ?_⟩
  refine ⟨_, rfl, (n : Int), rfl, by omega, ?_⟩
  refine ⟨_, rfl, _, rfl, x, _, dx, _, [], 2, rfl, .inl ⟨fr.ins, rfl⟩, T.c_Layer, T.s_Layer_width, ?_⟩
  have e1 : ExI x dx H (SlX.slH H x (He.ga K "Layer") dx (SlX.putS 2 (V.int (n : Int)) [])) := ExI.refl.sl
  refine ⟨_, rfl, _, rfl, L, a, us, es, n, rfl, fr.en e1 hS, ves_ex (fr.exN e1) hv, hn, hn2, ok, hz, fun le H2 hle e2 hl2 => ?_⟩
  have s1 : SlX.Slt H2 x (He.ga K "Layer") dx (SlX.putS 2 (V.int (n : Int)) []) := ex_slt e2 (SlX.slH_slt fr.ne)
  refine ⟨_, rfl, x, _, dx, _, _, 0, rfl, s1, T.c_Layer, T.s_Layer__entries, ?_⟩
  have e3 : ExI x dx H (SlX.slH H2 x (He.ga K "Layer") dx (SlX.putS 0 (V.ref le) (SlX.putS 2 (V.int (n : Int)) []))) := (e1.ex e2).sl
  have nle : le ≠ x ∧ le ≠ dx := by
    constructor
    · intro z
      rcases s1 with ⟨h, _⟩ | ⟨h, _⟩ <;> (rw [← z, hl2] at h; cases h)
    · intro z
      rcases SlX.slH_slt (H := H) (C := He.ga K "Layer") (vs := SlX.putS 2 (V.int (n : Int)) []) fr.ne with ⟨h, hh⟩ | ⟨_, h⟩
      · cases hh
      · have h' := e2 _ _ h
        rw [← z, hl2] at h'
        cases h'
  have hle3 : SlX.slH H2 x (He.ga K "Layer") dx (SlX.putS 0 (V.ref le) (SlX.putS 2 (V.int (n : Int)) [])) le = some (.lst us) := by rw [SlX.slH_ne nle.1 nle.2]; exact hl2
  have s3 : SlX.Slt (SlX.slH H2 x (He.ga K "Layer") dx (SlX.putS 0 (V.ref le) (SlX.putS 2 (V.int (n : Int)) []))) x (He.ga K "Layer") dx (SlX.putS 0 (V.ref le) (SlX.putS 2 (V.int (n : Int)) [])) := SlX.slH_slt fr.ne
  generalize SlX.slH H2 x (He.ga K "Layer") dx (SlX.putS 0 (V.ref le) (SlX.putS 2 (V.int (n : Int)) [])) = H3 at e3 hle3 s3 ⊢
  refine ⟨_, rfl, x, _, dx, _, _, 0, _, rfl, s3, T.c_Layer, T.s_Layer__entries, rfl, le, rfl, ⟨us, sq_of hle3⟩, fun D hD => ?_⟩
  have lu := hv.len
  refine lc_mapN (ys := vis (es.map Ent.key)) (sq_of hle3) (szK (by omega)) hD (by rw [vis_len, List.length_map, lu]) (fun _ => rfl) (fun i z y H4 Q' hx hy e4 q => ?_) fun H4 e4 hy => ?_
  · obtain ⟨e, he, hve⟩ := hv.get hx
    rw [List.getElem?_map, List.getElem?_map, he] at hy
    have ey : y = .int e.key := (Option.some.inj hy).symm
    subst ey
    exact ⟨_, rfl, z, e, n, rfl, hve.ex ((fr.exN e3).trans (ExN.of e4)), (ok.all e (List.mem_of_getElem? he)).key, hn, q H4 (Ex.refl _)⟩
  refine ⟨_, rfl, x, _, dx, _, _, 1, rfl, ex_slt e4 s3, T.c_Layer, T.s_Layer__key_list, ?_⟩
  have n1 : D ≠ x := fun z => by
    have hh : H3 x = none := by rw [← z]; exact hD
    rcases s3 with ⟨h, _⟩ | ⟨h, _⟩ <;> (rw [hh] at h; cases h)
  have n2 : D ≠ dx := fun z => by
    rcases s3 with ⟨_, h⟩ | ⟨_, h⟩
    · cases h
    · rw [← z, hD] at h
      cases h
  have f1 : H le = none := by
    cases q : H le with
    | none => rfl
    | some o =>
      have z := e1 le o nle.1 nle.2 q
      rw [hle] at z
      cases z
  have f2 : H D = none := by
    cases q : H D with
    | none => rfl
    | some o =>
      have z := e3 D o n1 n2 q
      rw [hD] at z
      cases z
  refine hQ _ (e3.ex e4).sl ⟨le, D, us, SlX.slH_slt fr.ne, ?_, ves_ex (fr.exN (e3.ex e4).sl) hv, ?_, f1, f2⟩
  · rw [SlX.slH_ne nle.1 nle.2]
    exact e4 _ _ hle3
  · rw [SlX.slH_ne n1 n2]
    exact hy
theorem len_LayInitF {K : Fg} : Len ["self", "width", "entries"] (spLayInitF K) := by
  rintro vs H Q E ⟨x, dx, a, L, us, es, n, rfl, _⟩
  rfl
section
variable {w : World} {K : Fg} {mg : Str → Option Value} {base : Heap}
variable (T : Top K mg) (D_check_width : Df PR w K mg base 2 "check_width" [] spCheckWidth) (D_check_entries : Df PR w K mg base 4 "check_entries" [] (spCheckEntries K)) (D_entry_key : Df PR w K mg base 1 "entry_key" [] (spKey K))
include T D_check_width D_check_entries D_entry_key
theorem mk_Layer2F : Mkr PR w K mg base 6 (He.ga K "Layer") [] (spLayInitF K) := by
  obtain ⟨M, fd, F⟩ := T.i_Layer
  exact ⟨_, M, fna_full F sc_Layer_init len_LayInitF (fun _ _ _ _ _ _ _ us its h1 h2 => match us, its, h1, h2 with | [_, _, _], [_], _, _ => ⟨_, rfl, rfl⟩) (walk_Layer_init T D_check_width D_check_entries D_entry_key)⟩
theorem mk_Layer2 : Mkr PR w K mg base 6 (He.ga K "Layer") [] (spLayInit K) := by
  obtain ⟨g, M, F⟩ := mk_Layer2F T D_check_width D_check_entries D_entry_key
  exact ⟨g, M, F.imp fun vs H Q E h => layInit_weak h⟩
end
def spLayEntry (K : Fg) : Sp := fun vs H Q _ => ∃ (x : Addr) (k : Int) (n : Nat) (es : List Ent), vs = [.ref x, .int k] ∧ VLay K H (He.ga K "Layer") x n es ∧ (es.map Ent.key).Pairwise (· < ·) ∧ ∀ v, VOE K H v (findE es k) → Q v H
theorem ok_Layer_entry {w : World} {K : Fg} {mg : Str → Option Value} {base : Heap} (T : Top K mg) (D_count_below : Df PR w K mg base 1 "count_below" [] (spCount K)) : FnA PR w K mg base 2 (He.ma K (He.ga K "Layer") "entry") [] ((spLayEntry K)) := by
  obtain ⟨_, fd, F⟩ := T.m_Layer_entry
  refine fna_d0 F sc_Layer_entry (fun vs H Q E h => ?_) (fun _ _ _ _ _ _ us hl => match us, hl with | [_, _], _ => rfl) (fun cdv A outer s H vs Q E hr h => ?_)
  · obtain ⟨x, k, n, es, rfl, ⟨dx, le, lk, us, hsl, hle, hv, hlk⟩, hp, hQ⟩ := h; rfl
  obtain ⟨x, k, n, es, rfl, ⟨dx, le, lk, us, hsl, hle, hv, hlk⟩, hp, hQ⟩ := h
  refine ⟨_, (pss_cons (ps_set (i := 2) sc_Layer_entry.nd rfl (Or.inl rfl) (pe_df D_count_below (hr.mono (by decide)) (by rfl) passLA (pa_cons (SlX.pe_sl (pv 0)) (pa_cons (pv 1) pa_nil))))
    (pss_cons (ps_if (PW.pt (pw_and (pt_cmpR op_lt (pv 2) (pe_callB call_len_seq (by rfl) T.b_len (by decide +kernel) (pa_cons (SlX.pe_sl (pv 0)) pa_nil)) (nomark _)) (pw_and1 (pt_cmpR op_eq (pe_ix ix_list (SlX.pe_sl (pv 0)) (pv 2) (fun _ _ => rfl)) (pv 1) (nomark _))))) (pss_one (ps_ret (pe_ix ix_list (SlX.pe_sl (pv 0)) (pv 2) (fun _ _ => rfl)))) pss_nil)
    (pss_one (ps_ret pe_non)))), ?_⟩
  refine ⟨_, rfl, x, _, dx, _, _, 1, _, rfl, hsl, T.c_Layer, T.s_Layer__key_list, rfl, _, rfl, lk, es.map Ent.key, k, rfl, hlk, hp, fun c hc => ?_⟩
  have lu := hv.len
  have hcm := cut_mem hp hc
  refine ⟨_, rfl, _, rfl, x, _, dx, _, _, 1, _, rfl, hsl, T.c_Layer, T.s_Layer__key_list, rfl, _, _, rfl, .inl hlk, _, _, rfl, rfl, _, rfl, ?_⟩
  refine (fun (fin : k ∉ es.map Ent.key → _) => ite2 (fun h => ?_) fun h => iteF (fin fun z => h ?_)) fun hk => ?_
  · have hlt : c < es.length := by
      have := of_decide_eq_true h
      rw [vis_len, List.length_map] at this
      omega
    have he : es[c]? = some es[c] := List.getElem?_eq_getElem hlt
    have hkc : (es.map Ent.key)[c]? = some es[c].key := by rw [List.getElem?_map, he]; rfl
    obtain ⟨u, hu, hve⟩ := hv.get' he
    refine ⟨_, rfl, x, _, dx, _, _, 1, _, rfl, hsl, T.c_Layer, T.s_Layer__key_list, rfl, _, rfl, lk, _, _, _, rfl, rfl, hlk, atI_nat (vis_get hkc), _, rfl, rfl, _, rfl, ?_⟩
    refine ite2 (fun h2 => ?_) fun h2 => fin fun z => h2 ?_
    · have ek : es[c].key = k := by
        have := of_decide_eq_true h2
        injection this
      refine ⟨_, rfl, x, _, dx, _, _, 0, _, rfl, hsl, T.c_Layer, T.s_Layer__entries, rfl, _, rfl, le, _, _, _, rfl, rfl, hle, atI_nat hu, hQ _ ?_⟩
      rw [← ek, findE_some hp he]
      exact hve
    · have := hcm.mp z
      rw [hkc] at this
      exact decide_eq_true (by rw [Option.some.inj this])
  · have := hcm.mp z
    obtain ⟨hl, _⟩ := List.getElem?_eq_some_iff.mp this
    refine decide_eq_true ?_
    rw [vis_len]
    omega
  · exact hQ _ (by rw [findE_none hk]; rfl)

end Kx

end

section
set_option Elab.async false
set_option linter.all false
set_option maxRecDepth 100000
set_option maxHeartbeats 4000000
namespace Kx
open PySem PySem.Spec PyProof.Rows L2 Evl Pl
/-! ### rows: columns -/
theorem row_atI {r : Rwv} {c : Nat} (h : c < r.length) : atI (vis r) (c : Nat) = some (.int (r.getD c 0)) := atI_nat (vis_get (get_getD h))
def spDiff (K : Fg) : Sp := fun vs H Q _ => ∃ (a b : Addr) (r s : Rwv), vs = [.ref a, .ref b] ∧ SqT K H a (vis r) ∧ SqT K H b (vis s) ∧ r.length = s.length ∧ r.length ≤ 1000 ∧ ∀ l H', H l = none → Ex H H' → H' l = some (.lst ((diffC r s).map fun c => V.int (c : Nat))) → Q (.ref l) H'
theorem ok_changed_columns {w : World} {K : Fg} {mg : Str → Option Value} {base : Heap} (T : Top K mg)  : FnA PR w K mg base 1 (He.ga K "changed_columns") [] ((spDiff K)) := by
  obtain ⟨_, fd, F⟩ := T.f_changed_columns
  refine fna_d0 F sc_changed_columns (fun vs H Q E h => ?_) (fun _ _ _ _ _ _ us hl => match us, hl with | [_, _], _ => rfl) (fun cdv A outer s H vs Q E hr h => ?_)
  · obtain ⟨a, b, r, s', rfl, ha, hb, hl, hz, hQ⟩ := h; rfl
  obtain ⟨a, b, r, s', rfl, ha, hb, hl, hz, hQ⟩ := h
  refine ⟨_, (pss_one (ps_ret (pe_lc (own := [("column", 2)]) (g := gName 2) rfl sc_changed_columns.nd (pi_range1 rfl T.b_range (pa_cons (pe_callB call_len_seq (by rfl) T.b_len (by decide +kernel) (pa_cons (pv 0) pa_nil)) pa_nil)) (blkOk_by (own := [("column", 2)]) (N := ["old", "new", "column"]) (sc := defScope s_changed_columns) (by decide +kernel)) (fun _ _ _ _ _ => (pg_name (i := 2) sc_changed_columns.nd rfl (Or.inl rfl))) (fun _ _ _ _ _ => (pts_one (pt_cmpR op_ne (pe_ix (r := rIxT K) ix_tup (pv 0) (pv 2) (fun _ _ => rfl)) (pe_ix (r := rIxT K) ix_tup (pv 1) (pv 2) (fun _ _ => rfl)) (nomark _)))) (fun _ _ _ _ _ => (pv 2))))), ?_⟩
  refine ⟨_, rfl, _, _, rfl, .inr ha, _, rfl, by omega, by rw [vis_len]; omega, fun D hD => ?_⟩
  rw [vis_len, Int.toNat_natCast]
  refine lc_fmR (m := fun i => if decide (r[i]? ≠ s'[i]?) = true then some i else none) (R := fun y c _ => y = V.int (c : Nat)) (szK (by omega)) hD (fun _ _ _ _ _ h => h) (fun i H2 Qy Qn hi e ky kn => ?_) fun ys H2 e hy _ hr => ?_
  · have hi2 : i < s'.length := by omega
    refine ⟨rfl, _, rfl, _, rfl, _, _, _, _, rfl, rfl, ex_t e ha, row_atI hi, _, rfl, _, rfl, _, _, _, _, rfl, rfl, ex_t e hb, row_atI hi2, rfl, _, rfl, ?_⟩
    refine ite2 (fun h => ?_) fun h => kn H2 (Ex.refl _) ?_
    · refine ⟨_, rfl, ky _ i H2 (Ex.refl _) ?_ rfl⟩
      rw [get_getD hi, get_getD hi2, if_pos]
      refine decide_eq_true fun z => ?_
      have z2 : V.int (r.getD i 0) = V.int (s'.getD i 0) := by rw [Option.some.inj z]
      rw [show (!decide (V.int (r.getD i 0) = V.int (s'.getD i 0))) = false by rw [decide_eq_true z2]; rfl] at h
      cases h
    · rw [get_getD hi, get_getD hi2, if_neg]
      intro z
      refine h ?_
      have z2 := of_decide_eq_true z
      show (!decide (V.int (r.getD i 0) = V.int (s'.getD i 0))) = true
      rw [decide_eq_false fun z3 => z2 (by injection z3 with z3; rw [z3])]
      rfl
  · refine hQ D H2 hD e ?_
    rw [hy]
    have h2 := all2_eq (f := fun c : Nat => V.int (c : Nat)) hr
    rw [fm_filter] at h2
    rw [h2]
    rfl
def withG (r : Rwv) (cs : List Nat) (b : Rwv) : Rwv := (List.range r.length).map fun c => if cs.contains c then b.getD c 0 else r.getD c 0
def spWith (K : Fg) : Sp := fun vs H Q _ => ∃ (a l b : Addr) (r s : Rwv) (cs : List Nat), vs = [.ref a, .ref l, .ref b] ∧ SqT K H a (vis r) ∧ SqL K H l (cs.map fun c => V.int (c : Nat)) ∧ SqT K H b (vis s) ∧ r.length = s.length ∧ r.length ≤ 1000 ∧
  ∀ t H', H t = none → Ex H H' → H' t = some (.tup (vis (withG r cs s))) → Q (.ref t) H'
theorem in_cols {cs : List Nat} {c : Nat} : inV (.int (c : Nat)) (cs.map fun c => V.int (c : Nat)) = cs.contains c := by
  induction cs with
  | nil => rfl
  | cons a l ih =>
    rw [List.map_cons, List.contains_cons, ← ih]
    show ((((a : Nat) : Int) == ((c : Nat) : Int)) || _) = _
    congr 1
    by_cases h : c = a
    · rw [h, beq_self_eq_true, beq_self_eq_true]
    · rw [beq_eq_false_iff_ne.mpr h, beq_eq_false_iff_ne.mpr fun z => h (by omega)]
theorem flat_ints {cs : List Nat} : (cs.map fun c => V.int (c : Nat)).all flatV = true := by
  rw [List.all_map, List.all_eq_true]
  exact fun _ _ => rfl
theorem ok_with_columns {w : World} {K : Fg} {mg : Str → Option Value} {base : Heap} (T : Top K mg)  : FnA PR w K mg base 1 (He.ga K "with_columns") [] ((spWith K)) := by
  obtain ⟨_, fd, F⟩ := T.f_with_columns
  refine fna_d0 F sc_with_columns (fun vs H Q E h => ?_) (fun _ _ _ _ _ _ us hl => match us, hl with | [_, _, _], _ => rfl) (fun cdv A outer s H vs Q E hr h => ?_)
  · obtain ⟨a, l, b, r, s', cs, rfl, ha, hc, hb, hl, hz, hQ⟩ := h; rfl
  obtain ⟨a, l, b, r, s', cs, rfl, ha, hc, hb, hl, hz, hQ⟩ := h
  refine ⟨_, (pss_one (ps_ret (pe_callTy call_tuple_of (by rfl) T.b_tuple (by decide +kernel) (pa_cons (pe_lc (own := [("column", 3)]) (g := gName 3) (tt := tYes) rfl sc_with_columns.nd (pi_range1 rfl T.b_range (pa_cons (pe_callB call_len_seq (by rfl) T.b_len (by decide +kernel) (pa_cons (pv 0) pa_nil)) pa_nil)) (blkOk_by (own := [("column", 3)]) (N := ["row", "columns", "other", "column"]) (sc := defScope s_with_columns) (by decide +kernel)) (fun _ _ _ _ _ => (pg_name (i := 3) sc_with_columns.nd rfl (Or.inl rfl))) (fun _ _ _ _ _ => pts_nil) (fun _ _ _ _ _ => (pe_ifExp (pt_cmpR (r := rIn K false) op_in_seq (pv 3) (pv 1) (by rfl)) (pe_ix (r := rIxT K) ix_tup (pv 2) (pv 3) (fun _ _ => rfl)) (pe_ix (r := rIxT K) ix_tup (pv 0) (pv 3) (fun _ _ => rfl))))) pa_nil)))), ?_⟩
  refine ⟨_, rfl, _, _, rfl, .inr ha, _, rfl, by omega, by rw [vis_len]; omega, fun D hD => ?_⟩
  rw [vis_len, Int.toNat_natCast]
  refine lc_fmR (m := fun c => some (if cs.contains c then s'.getD c 0 else r.getD c 0)) (R := fun y c _ => y = V.int c) (szK (by omega)) hD (fun _ _ _ _ _ h => h) (fun i H2 Qy Qn hi e ky kn => ?_) fun ys H2 e hy _ hr => ?_
  · have hi2 : i < s'.length := by omega
    refine ⟨rfl, _, rfl, _, rfl, l, _, rfl, .inl (ex_l e hc), rfl, flat_ints, _, rfl, ?_⟩
    have ei := in_cols (cs := cs) (c := i)
    refine ite2 (fun h => ?_) fun h => ?_
    · refine ⟨_, rfl, _, rfl, _, _, _, _, rfl, rfl, ex_t e hb, row_atI hi2, ky _ _ H2 (Ex.refl _) (by rw [if_pos (ei.symm.trans h)]) rfl⟩
    · refine ⟨_, rfl, _, rfl, _, _, _, _, rfl, rfl, ex_t e ha, row_atI hi, ky _ _ H2 (Ex.refl _) (by rw [if_neg (fun z => h (ei.trans z))]) rfl⟩
  · refine ⟨D, _, rfl, .inl ⟨sq_of hy, fun t ht => ?_⟩⟩
    refine hQ t _ (fresh_back e ht) (e.trans (Ex.new ht)) ?_
    rw [upd_same]
    have h2 := all2_eq (f := fun c : Int => V.int c) hr
    rw [fm_some] at h2
    rw [h2]
    rfl

end Kx

end

section
set_option Elab.async false
set_option linter.all false
set_option maxRecDepth 100000
set_option maxHeartbeats 4000000
namespace Kx
open PySem PySem.Spec PyProof.Rows L2 Evl Pl
/-! ### growth before a key; conflicts -/
theorem cut_take {xs : List V} {c : Nat} (h : c ≤ xs.length) : cutV xs Option.none (some (c : Int)) = xs.take c := by
  unfold cutV
  rw [HT.sIx_none, HT.sIx_nat, List.drop_zero, Nat.sub_zero, Nat.min_eq_left h]
def spGrowB (K : Fg) : Sp := fun vs H Q _ => ∃ (x : Addr) (k : Int) (n : Nat) (es : List Ent), vs = [.ref x, .int k] ∧ VLay K H (He.ga K "Layer") x n es ∧ (es.map Ent.key).Pairwise (· < ·) ∧ es.length ≤ 1000 ∧ ∀ H', Ex H H' → Q (.int (growB es k)) H'
theorem ok_Layer_growth_before {w : World} {K : Fg} {mg : Str → Option Value} {base : Heap} (T : Top K mg) (D_count_below : Df PR w K mg base 1 "count_below" [] (spCount K)) (D_entry_growth : Df PR w K mg base 1 "entry_growth" [] (spGrow K)) : FnA PR w K mg base 2 (He.ma K (He.ga K "Layer") "growth_before") [] ((spGrowB K)) := by
  obtain ⟨_, fd, F⟩ := T.m_Layer_growth_before
  refine fna_d0 F sc_Layer_growth_before (fun vs H Q E h => ?_) (fun _ _ _ _ _ _ us hl => match us, hl with | [_, _], _ => rfl) (fun cdv A outer s H vs Q E hr h => ?_)
  · obtain ⟨x, k, n, es, rfl, ⟨dx, le, lk, us, hsl, hle, hv, hlk⟩, hp, hz, hQ⟩ := h; rfl
  obtain ⟨x, k, n, es, rfl, ⟨dx, le, lk, us, hsl, hle, hv, hlk⟩, hp, hz, hQ⟩ := h
  refine ⟨_, (pss_cons (ps_set (i := 2) sc_Layer_growth_before.nd rfl (Or.inl rfl) (pe_df D_count_below (hr.mono (by decide)) (by rfl) passLA (pa_cons (SlX.pe_sl (pv 0)) (pa_cons (pv 1) pa_nil))))
    (pss_one (ps_ret (pe_callB (cr_sum rfl) (by rfl) T.b_sum (by decide +kernel) (pa_cons (pe_lc (own := [("entry", 3)]) (g := gName 3) (tt := tYes) rfl sc_Layer_growth_before.nd (pi_list (pe_slice sl_list (SlX.pe_sl (pv 0)) po_none (po_some (pv 2)))) (blkOk_by (own := [("entry", 3)]) (N := ["self", "key", "count", "entry"]) (sc := defScope s_Layer_growth_before) (by decide +kernel)) (fun _ _ _ _ _ => (pg_name (i := 3) sc_Layer_growth_before.nd rfl (Or.inl rfl))) (fun _ _ _ _ _ => pts_nil) (fun _ _ _ _ _ => (pe_df D_entry_growth (hr.mono (by decide)) (by rfl) passLA (pa_cons (pv 3) pa_nil)))) pa_nil))))), ?_⟩
  refine ⟨_, rfl, x, _, dx, _, _, 1, _, rfl, hsl, T.c_Layer, T.s_Layer__key_list, rfl, _, rfl, lk, es.map Ent.key, k, rfl, hlk, hp, fun c hc => ?_⟩
  have lu := hv.len
  have hcl : c ≤ es.length := by have := hc.1; rwa [List.length_map] at this
  refine ⟨_, rfl, x, _, dx, _, _, 0, _, rfl, hsl, T.c_Layer, T.s_Layer__entries, rfl, _, rfl, _, rfl, le, us, rfl, hle, fun p hp0 => ⟨p, rfl, ⟨_, sq_of upd_same⟩, fun D hD => ?_⟩⟩
  rw [cut_take (by omega : c ≤ us.length)] at hD ⊢
  have e1 := Ex.new (o := .lst (us.take c)) hp0
  refine lc_mapN (ys := vis ((es.take c).map Ent.grow)) (sq_of upd_same) (szK (by rw [List.length_take]; omega)) hD (by rw [vis_len, List.length_map, List.length_take, List.length_take, lu]) (fun _ => rfl) (fun i z y H4 Q' hx hy e4 q => ?_) fun H4 e4 hy => ?_
  · obtain ⟨e, he, hve⟩ := (hv.take c).get hx
    rw [List.getElem?_map, List.getElem?_map, he] at hy
    have ey : y = .int e.grow := (Option.some.inj hy).symm
    subst ey
    exact ⟨_, rfl, z, e, rfl, hve.ex (ExN.of (e1.trans e4)), q H4 (Ex.refl _)⟩
  refine ⟨D, _, rfl, sq_of hy, ?_⟩
  rw [show ((es.take c).map Ent.grow).sum = growB es k from gsum_cut hc]
  exact hQ H4 (e1.trans e4)
def Good (s : Str) : Prop := s = ("row" : Str) ∨ s = ("column" : Str)
def spRule (K : Fg) : Sp := fun vs H Q E => ∃ s : Str, vs = [.str s] ∧ Good s ∧ Q .non H
theorem rules_in (s : Str) : inV (.str s) [.str ("row" : Str), .str ("column" : Str)] = true ↔ Good s := by
  show ((("row" : Str) == s) || ((("column" : Str) == s) || false)) = true ↔ _
  rw [Bool.or_false, Bool.or_eq_true, beq_iff_eq, beq_iff_eq]
  exact ⟨fun h => h.imp Eq.symm Eq.symm, fun h => h.imp Eq.symm Eq.symm⟩
theorem ok_check_rule {w : World} {K : Fg} {mg : Str → Option Value} {base : Heap} (T : Top K mg)  : FnA PR w K mg base 2 (He.ga K "check_rule") [] ((spRule K)) := by
  obtain ⟨_, fd, F⟩ := T.f_check_rule
  refine fna_d0 F sc_check_rule (fun vs H Q E h => ?_) (fun _ _ _ _ _ _ us hl => match us, hl with | [_], _ => rfl) (fun cdv A outer s H vs Q E hr h => ?_)
  · obtain ⟨s', rfl, hg, hQ⟩ := h; rfl
  obtain ⟨s', rfl, hg, hQ⟩ := h
  refine ⟨_, (pss_one (ps_if (pt_cmpR op_notIn_seq (pv 0) (pe_glob (v := .ref (He.ga K "RULES")) (by rfl) T.g_RULES rfl) (by rfl)) (pss_one ps_never) pss_nil)), ?_⟩
  refine ⟨_, rfl, _, _, rfl, .inr (T.t_RULES H), rfl, rfl, _, rfl, ?_⟩
  exact ifF (by rw [(rules_in s').mpr hg]; rfl) hQ
def spShare (K : Fg) : Sp := fun vs H Q _ => ∃ (x y : Addr) (n m : Nat) (es fs : List Ent), vs = [.ref x, .ref y] ∧ VLay K H (He.ga K "Layer") x n es ∧ VLay K H (He.ga K "Layer") y m fs ∧ EntsOk n es ∧ EntsOk m fs ∧ 1 ≤ n ∧ 1 ≤ m ∧ es.length + fs.length < 64 ∧
  ∀ H', Ex H H' → Q (.bl (decide (n = m) && (linksM (turnedM es) fs).isSome)) H'
theorem ok_share_base {w : World} {K : Fg} {mg : Str → Option Value} {base : Heap} (T : Top K mg) (D_links : Df PR w K mg base 3 "links" [] (spLinks K)) (D_turned : Df PR w K mg base 2 "turned" [] (spTurned K)) (I_Layer : FnS PR w K mg base (L2.CX PR w) 1 (He.ma K (He.ga K "Layer") "__iter__") (spIter K (He.ga K "Layer") 0)) (L_Layer : FnR PR w K mg base (L2.CX PR w) 1 (He.ma K (He.ga K "Layer") "__len__") (spLen K (He.ga K "Layer") 0)) : FnA PR w K mg base 8 (He.ga K "share_base") [] ((spShare K)) := by
  obtain ⟨_, fd, F⟩ := T.f_share_base
  refine fna_d0 F sc_share_base (fun vs H Q E h => ?_) (fun _ _ _ _ _ _ us hl => match us, hl with | [_, _], _ => rfl) (fun cdv A outer s H vs Q E hr h => ?_)
  · obtain ⟨x, y, n, m, es, fs, rfl, h1, h2, ok1, ok2, hn, hm, hz, hQ⟩ := h; rfl
  obtain ⟨x, y, n, m, es, fs, rfl, h1, h2, ok1, ok2, hn, hm, hz, hQ⟩ := h
  refine ⟨_, (pss_cons (ps_if (pt_cmpR op_ne (SlX.pe_sl (pv 0)) (SlX.pe_sl (pv 1)) (nomark _)) (pss_one (ps_ret pe_bl)) pss_nil)
    (pss_cons (ps_tryA rfl rfl sc_share_base.nd tkOf (fun W pn xe tk po => (pss_one (ps_expr (pe_df D_links (hr.mono (by decide)) (by rfl) (fun σ => passAt tk σ) (pa_cons (pe_df D_turned (hr.mono (by decide)) (by rfl) passLA (pa_cons (pe_callTy (r := rListSl K (He.ga K "Layer") 0) (call_listSl rfl (iterC_of T.m_Layer_iter.1) I_Layer (lenC_of T.m_Layer_len.1) L_Layer (hr.mono (by decide))) (by rfl) T.b_list (by decide +kernel) (pa_cons (pv 0) pa_nil)) pa_nil)) (pa_cons (pe_callTy (r := rListSl K (He.ga K "Layer") 0) (call_listSl rfl (iterC_of T.m_Layer_iter.1) I_Layer (lenC_of T.m_Layer_len.1) L_Layer (hr.mono (by decide))) (by rfl) T.b_list (by decide +kernel) (pa_cons (pv 1) pa_nil)) pa_nil)))))) (HdsA.cons ⟨rfl, by decide, .inl T.g_DoesNotFollow⟩ (fun a oe cls d pn hz hf => (pss_one (ps_ret pe_bl))) HdsA.nil))
    (pss_one (ps_ret pe_bl)))), ?_⟩
  obtain ⟨dx, le, lk, us, hsl, hle, hv, _⟩ := h1
  obtain ⟨dy, me, mk, ws, hsl2, hme, hw, _⟩ := h2
  have lu := hv.len
  have lw := hw.len
  refine ⟨_, rfl, x, _, dx, _, _, 2, _, rfl, hsl, T.c_Layer, T.s_Layer_width, rfl, _, rfl, y, _, dy, _, _, 2, _, rfl, hsl2, T.c_Layer, T.s_Layer_width, rfl, rfl, _, rfl, ?_⟩
  by_cases hnm : n = m
  · subst hnm
    refine iteNS rfl ?_
    refine ⟨_, rfl, x, dx, _, le, us, rfl, hsl, rfl, hle, szK (by omega), fun p hp => ?_⟩
    have e1 := Ex.new (o := .lst us) hp
    refine ⟨p, us, es, rfl, sq_of upd_same, ves_ex (ExN.of e1) hv, by omega, fun q ts H2 hq e2 hq2 hts => ?_⟩
    refine ⟨_, rfl, y, dy, _, me, ws, rfl, ex_slt (e1.trans e2) hsl2, rfl, ex_l (e1.trans e2) hme, szK (by omega), fun r hr' => ?_⟩
    have e3 := Ex.new (o := .lst ws) hr'
    have e123 := (e1.trans e2).trans e3
    have p1 := chain_keys ok1.ord
    have p2 := chain_keys ok2.ord
    have kt : (turnedM es).map Ent.key = es.map Ent.key := turnG_keys ok1.all
    refine ⟨q, r, ts, ws, turnedM es, fs, n, rfl, sq_of (e3 _ _ hq2), sq_of upd_same, ves_ex (ExN.of e3) hts, ves_ex (ExN.of e123) hw, turnG_key ok1.all, fun e he => (ok2.all e he).key, hn, by rw [kt]; exact p1, p2, ?_, fun Ls l xs H3 hL _ e4 _ _ => ?_, fun hL H3 e4 => ?_⟩
    · rw [show (turnedM es).length = es.length from turnG_len]
      exact hz
    · have z := hQ H3 (e123.trans e4)
      rw [hL, decide_eq_true rfl] at z
      exact z
    · refine ⟨true, T.ex_DoesNotFollow_DoesNotFollow, fun _ a ha => ?_, fun z => nomatch z⟩
      have z := hQ H3 (e123.trans e4)
      rw [hL, decide_eq_true rfl] at z
      exact z
  · refine ite2 (fun _ => ?_) fun h => absurd (show (!decide (V.int (n : Int) = V.int (m : Int))) = true by rw [decide_eq_false (fun z => hnm (by injection z with z; omega))]; rfl) h
    have z := hQ H (Ex.refl _)
    rw [decide_eq_false hnm] at z
    exact z

def spInConf (K : Fg) : Sp := fun vs H Q _ => ∃ (u v : V) (s : Str) (e f : Ent) (n : Nat), vs = [u, v, .str s] ∧ VE K H u e ∧ VE K H v f ∧ EntOk n e ∧ EntOk n f ∧ n ≤ 1000 ∧ ∀ H', Ex H H' → Q (.bl (inConf s e f)) H'
theorem ds_depth : ∀ l : List (Option Rwv), PyData.depthAll (l.map orowD) ≤ 2
  | [] => by simp [PyData.depthAll]
  | a :: l => by
    have h1 := ds_depth l
    have h2 := orowD_depth a
    simp only [List.map_cons, PyData.depthAll]
    omega
theorem ds_lay : ∀ l : List (Option Rwv), PyData.canLayAll0 (l.map orowD) = true
  | [] => rfl
  | a :: l => by
    simp only [List.map_cons, PyData.canLayAll0, orowD_lay a, Bool.true_and]
    exact ds_lay l
theorem ds_shaped (l : List (Option Rwv)) : SeqAt.shaped (.list (l.map orowD)) = true := by
  have h := ds_depth l
  have h2 : PyData.depth (.list (l.map orowD)) ≤ 64 := by
    simp only [PyData.depth]
    omega
  show (PyData.canLay0 (.list (l.map orowD)) && decide (PyData.depth (.list (l.map orowD)) ≤ 64)) = true
  rw [Bool.and_eq_true]
  exact ⟨by simp only [PyData.canLay0]; exact ds_lay l, decide_eq_true h2⟩
theorem ok_in_conflict {w : World} {K : Fg} {mg : Str → Option Value} {base : Heap} (T : Top K mg) (D_changed_columns : Df PR w K mg base 1 "changed_columns" [] (spDiff K)) : FnA PR w K mg base 2 (He.ga K "in_conflict") [] ((spInConf K)) := by
  obtain ⟨_, fd, F⟩ := T.f_in_conflict
  refine fna_d0 F sc_in_conflict (fun vs H Q E h => ?_) (fun _ _ _ _ _ _ us hl => match us, hl with | [_, _, _], _ => rfl) (fun cdv A outer s H vs Q E hr h => ?_)
  · obtain ⟨u, v, s', e, f, n, rfl, ⟨a, x, y, rfl, ha, hx, hy⟩, ⟨b, x', y', rfl, hb, hx', hy'⟩, ok1, ok2, hn, hQ⟩ := h; rfl
  obtain ⟨u, v, s', e, f, n, rfl, ⟨a, x, y, rfl, ha, hx, hy⟩, ⟨b, x', y', rfl, hb, hx', hy'⟩, ok1, ok2, hn, hQ⟩ := h
  refine ⟨_, (pss_cons (ps_if (PW.pt (pw_or (pt_cmpR op_eq (pv 2) pe_str (nomark _)) (pw_or1 (pt_cmpR (op_inD (hu65 hr)) pe_non (pe_lst (StX.pa_star (pe_slice sl_tup (pv 0) (po_some pe_int) po_none) (StX.pa_star (pe_slice sl_tup (pv 1) (po_some pe_int) po_none) pa_nil))) (by rfl))))) (pss_one (ps_ret pe_bl)) pss_nil)
    (pss_cons (ps_set (i := 3) sc_in_conflict.nd rfl (Or.inr rfl) (pe_df D_changed_columns (hr.mono (by decide)) (by rfl) passLA (pa_cons (pe_ix ix_tup (pv 1) pe_int (fun _ _ => rfl)) (pa_cons (pe_ix ix_tup (pv 1) pe_int (fun _ _ => rfl)) pa_nil))))
    (pss_one (ps_ret (pe_callB (cr_any rfl) (by rfl) T.b_any (by decide +kernel) (pa_cons (pe_lc (own := [("column", 4)]) (g := gName 4) (tt := tYes) rfl sc_in_conflict.nd (pi_list (pe_df D_changed_columns (hr.mono (by decide)) (by rfl) passLA (pa_cons (pe_ix ix_tup (pv 0) pe_int (fun _ _ => rfl)) (pa_cons (pe_ix ix_tup (pv 0) pe_int (fun _ _ => rfl)) pa_nil)))) (blkOk_by (own := [("column", 4)]) (N := ["entry", "other", "by", "changed", "column"]) (sc := defScope s_in_conflict) (by decide +kernel)) (fun _ _ _ _ _ => (pg_name (i := 4) sc_in_conflict.nd rfl (Or.inl rfl))) (fun _ _ _ _ _ => pts_nil) (fun _ _ _ _ _ => (pe_cmpR (r := rIn K false) op_in_seq (pv 4) (pv 3) (by rfl)))) pa_nil)))))), ?_⟩
  refine ⟨_, rfl, rfl, _, rfl, ?_⟩
  refine ite2 (fun h => iteT ?_) fun h => ?_
  · have z := hQ H (Ex.refl _)
    rw [inConf_half (.inl ?_)] at z
    · exact z
    · exact of_decide_eq_true (p := s' = ("row" : Str)) (by
        have h2 := of_decide_eq_true h
        exact decide_eq_true (by injection h2))
  have hs : ¬ ByRow s' := fun z => h (decide_eq_true (by rw [show s' = ("row" : Str) from z]))
  refine ⟨_, rfl, 1, rfl, a, _, rfl, ha, (fun z => absurd (show (1 : Nat) = 0 from z.1) (by decide)), fun p hp => ?_⟩
  rw [cut3]
  have e1 := Ex.new (o := .tup [x, y]) hp
  refine ⟨p, _, rfl, .inl (st_of upd_same), ?_⟩
  refine ⟨_, rfl, 1, rfl, b, _, rfl, ex_t e1 hb, (fun z => absurd (show (1 : Nat) = 0 from z.1) (by decide)), fun q hq => ?_⟩
  rw [cut3]
  have e2 := Ex.new (o := .tup [x', y']) hq
  refine ⟨q, _, rfl, .inl (st_of upd_same), sz4, fun l hl => ?_⟩
  have e3 := Ex.new (o := .lst ([x, y] ++ ([x', y'] ++ []))) hl
  have e123 := (e1.trans e2).trans e3
  have n0 := ExN.of e123
  refine ⟨.none, [e.o, e.n, f.o, f.n].map orowD, .non, .lst (sq_of upd_same) (.cons (hx.ex n0).dp (.cons (hy.ex n0).dp (.cons (hx'.ex n0).dp (.cons (hy'.ex n0).dp .nil)))), rfl, ds_shaped _, _, rfl, ?_⟩
  have half : Half e ∨ Half f → Q (.bl true) (upd (upd (upd H p (.tup [x, y])) q (.tup [x', y'])) l (.lst ([x, y] ++ ([x', y'] ++ [])))) := fun hf => by
    have z := hQ _ e123
    rw [inConf_half (.inr hf)] at z
    exact z
  generalize upd (upd (upd H p (.tup [x, y])) q (.tup [x', y'])) l (.lst ([x, y] ++ ([x', y'] ++ []))) = H1 at half e123 n0 ⊢
  obtain ⟨ep, eo, en⟩ := e
  obtain ⟨fp, fo, fn⟩ := f
  cases eo with
  | none => exact ifT rfl (half (.inl (.inl rfl)))
  | some a1 =>
  cases en with
  | none => exact ifT rfl (half (.inl (.inr rfl)))
  | some a2 =>
  cases fo with
  | none => exact ifT rfl (half (.inr (.inl rfl)))
  | some b1 =>
  cases fn with
  | none => exact ifT rfl (half (.inr (.inr rfl)))
  | some b2 =>
  refine ifF rfl ?_
  obtain ⟨xa, rfl, hxa⟩ := hx
  obtain ⟨ya, rfl, hya⟩ := hy
  obtain ⟨xb, rfl, hxb⟩ := hx'
  obtain ⟨yb, rfl, hyb⟩ := hy'
  have l1 : a1.length = n := ok1.o
  have l2 : a2.length = n := ok1.n
  have l3 : b1.length = n := ok2.o
  have l4 : b2.length = n := ok2.n
  refine ⟨_, rfl, b, _, _, _, rfl, rfl, ex_t e123 hb, atI1 rfl, _, rfl, b, _, _, _, rfl, rfl, ex_t e123 hb, atI2 rfl, xb, yb, b1, b2, rfl, ex_t e123 hxb, ex_t e123 hyb, by omega, by omega, fun c1 H2 _ e4 hc1 => ?_⟩
  have e5 := e123.trans e4
  refine ⟨_, rfl, a, _, _, _, rfl, rfl, ex_t e5 ha, atI1 rfl, _, rfl, a, _, _, _, rfl, rfl, ex_t e5 ha, atI2 rfl, xa, ya, a1, a2, rfl, ex_t e5 hxa, ex_t e5 hya, by omega, by omega, fun c2 H3 _ e6 hc2 => ⟨c2, rfl, ⟨_, sq_of hc2⟩, fun D hD => ?_⟩⟩
  have ld : (diffC a1 a2).length ≤ n := by
    unfold diffC
    have := List.length_filter_le (fun c => decide (a1[c]? ≠ a2[c]?)) (List.range a1.length)
    rw [List.length_range] at this
    omega
  refine lc_mapN (ys := ((diffC a1 a2).map fun c => (diffC b1 b2).contains c).map V.bl) (sq_of hc2) (szK (by rw [List.length_map]; omega)) hD (by rw [List.length_map, List.length_map, List.length_map]) (fun _ => rfl) (fun i z y H4 Q' hx hy e7 q => ?_) fun H4 e7 hy => ?_
  · rw [List.getElem?_map] at hx
    rw [List.getElem?_map, List.getElem?_map] at hy
    cases hi : (diffC a1 a2)[i]? with
    | none => rw [hi] at hx; cases hx
    | some c =>
      rw [hi] at hx hy
      have ez := (Option.some.inj hx).symm
      have ey := (Option.some.inj hy).symm
      subst ez ey
      have z := q H4 (Ex.refl _)
      have z : Q' (.bl (List.contains (diffC b1 b2) c)) H4 := z
      rw [← in_cols] at z
      exact ⟨_, rfl, _, rfl, c1, _, rfl, .inl (sq_of (e7 _ _ (e6 _ _ hc1))), rfl, flat_ints, z⟩
  refine ⟨D, _, rfl, sq_of hy, ?_⟩
  have z := hQ H4 ((e5.trans e6).trans e7)
  rw [inConf_col hs] at z
  rw [List.any_map]
  exact z

end Kx

end

section
set_option Elab.async false
set_option linter.all false
set_option maxRecDepth 100000
set_option maxHeartbeats 4000000
namespace Kx
open PySem PySem.Spec PyProof.Rows L2 Evl Pl
/-! ### conflicts, sums, moved layers -/
theorem mk_en {H : Hp} {x C dx : Addr} (h1 : H x = none) (h2 : H dx = none) : Ex H (upd (upd H dx (.own x)) x (.ins C dx [])) := ExI.new h1 h2 ExI.refl
/-- two layers on the heap -/
structure Two (K : Fg) (H : Hp) (x y : Addr) (n : Nat) (es fs : List Ent) : Prop where
  h1 : VLay K H (He.ga K "Layer") x n es
  h2 : VLay K H (He.ga K "Layer") y n fs
  o1 : EntsOk n es
  o2 : EntsOk n fs
  hn : 1 ≤ n
  hm : n ≤ 1000
  hz : es.length + fs.length < 64
theorem Two.ex {K : Fg} {H H' : Hp} {x y : Addr} {n : Nat} {es fs : List Ent} (t : Two K H x y n es fs) (e : Ex H H') : Two K H' x y n es fs := ⟨t.h1.mono e, t.h2.mono e, t.o1, t.o2, t.hn, t.hm, t.hz⟩
def spConfl (K : Fg) : Sp := fun vs H Q _ => ∃ (x y : Addr) (n : Nat) (es fs : List Ent) (s : Str), vs = [.ref x, .ref y, .str s] ∧ Two K H x y n es fs ∧ Good s ∧ (linksM (turnedM es) fs).isSome = true ∧
  ∀ l ws H', H l = none → Ex H H' → H' l = some (.lst ws) → All2 (VP K H') ws (conflM s es fs) → Q (.ref l) H'
theorem ok_conflicts {w : World} {K : Fg} {mg : Str → Option Value} {base : Heap} (T : Top K mg) (D_check_rule : Df PR w K mg base 2 "check_rule" [] (spRule K)) (D_share_base : Df PR w K mg base 8 "share_base" [] (spShare K)) (D_entry_key : Df PR w K mg base 1 "entry_key" [] (spKey K)) (D_in_conflict : Df PR w K mg base 2 "in_conflict" [] (spInConf K)) (D_Layer_entry : MtS PR w K mg base 2 (He.ga K "Layer") "entry" (spLayEntry K)) (I_Layer : FnS PR w K mg base (L2.CX PR w) 1 (He.ma K (He.ga K "Layer") "__iter__") (spIter K (He.ga K "Layer") 0)) : FnA PR w K mg base 9 (He.ga K "conflicts") ["by"] ((spConfl K)) := by
  obtain ⟨_, fd, F⟩ := T.f_conflicts
  refine fna_d1 F sc_conflicts (fun vs H Q E h => ?_) rfl (fun _ _ _ _ _ _ us z hl => match us, hl with | [_, _], _ => rfl) (fun cdv A outer s H vs Q E hr h => ?_)
  · obtain ⟨x, y, n, es, fs, s', rfl, ⟨h1, h2, ok1, ok2, hn, hn2, hz⟩, hg, hL, hE⟩ := h; rfl
  obtain ⟨x, y, n, es, fs, s', rfl, ⟨h1, h2, ok1, ok2, hn, hn2, hz⟩, hg, hL, hE⟩ := h
  refine ⟨_, (pss_cons (ps_expr (pe_df D_check_rule (hr.mono (by decide)) (by rfl) (fun σ => passAt tkOf σ) (pa_cons (pv 2) pa_nil)))
    (pss_cons (ps_if (pt_cmpR op_ne (SlX.pe_sl (pv 0)) (SlX.pe_sl (pv 1)) (nomark _)) (pss_one ps_never) pss_nil)
    (pss_cons (ps_if (pt_not (pt_val (pe_df D_share_base (hr.mono (by decide)) (by rfl) passLA (pa_cons (pv 0) (pa_cons (pv 1) pa_nil))))) (pss_one ps_never) pss_nil)
    (pss_cons (ps_set (i := 3) sc_conflicts.nd rfl (Or.inl rfl) (pe_lst pa_nil))
    (pss_cons (ps_for poOf rfl (pi_own (pv 0) (iterC_of T.m_Layer_iter.1) I_Layer (hr.mono (by decide)) passL) (pg_name (i := 4) sc_conflicts.nd rfl (Or.inl rfl)) (pss_cons (ps_set (i := 5) sc_conflicts.nd rfl (Or.inl rfl) (pe_mtS (pv 1) D_Layer_entry (hr.mono (by decide)) passLA (pa_cons (pe_df D_entry_key (hr.mono (by decide)) (by rfl) passLA (pa_cons (pv 4) pa_nil)) pa_nil)))
    (pss_one (ps_if (PW.pt (pw_and (pt_cmpR op_notN (pv 5) pe_non (nomark _)) (pw_and1 (pt_val (pe_df D_in_conflict (hr.mono (by decide)) (by rfl) passLA (pa_cons (pv 4) (pa_cons (pv 5) (pa_cons (pv 2) pa_nil)))))))) (pss_one (ps_expr (pe_bm PySem.F.plainAttrs_list PySem.F.slot_list_append PySem.F.type_list_append mt_append (pv 3) (pa_cons (pe_tup (pa_cons (pe_ix ix_tup (pv 4) pe_int (fun _ _ => rfl)) (pa_cons (pe_df D_entry_key (hr.mono (by decide)) (by rfl) passLA (pa_cons (pv 4) pa_nil)) pa_nil))) pa_nil)))) pss_nil))))
    (pss_one (ps_ret (pv 3)))))))), ?_⟩
  obtain ⟨dx, le, lk, us, hsl, hle, hv, _⟩ := id h1
  obtain ⟨dy, me, mk, ws, hsl2, hme, hw, _⟩ := id h2
  have lu := hv.len
  refine ⟨_, rfl, s', rfl, hg, ?_⟩
  refine ⟨_, rfl, x, _, dx, _, _, 2, _, rfl, hsl, T.c_Layer, T.s_Layer_width, rfl, _, rfl, y, _, dy, _, _, 2, _, rfl, hsl2, T.c_Layer, T.s_Layer_width, rfl, rfl, _, rfl, ?_⟩
  refine iteNS rfl ?_
  refine ⟨_, rfl, _, rfl, x, y, n, n, es, fs, rfl, h1, h2, ok1, ok2, hn, hn, hz, fun H1 e1 => ⟨_, rfl, ?_⟩⟩
  rw [decide_eq_true rfl, Bool.true_and, hL]
  refine ifF rfl ⟨Nat.zero_le _, fun D hD => ?_⟩
  have hDH := fresh_back e1 hD
  have e2 : Ex H (upd H1 D (.lst [])) := e1.trans (Ex.new hD)
  have p1 := chain_keys ok1.ord
  have p2 := chain_keys ok2.ord
  refine ⟨_, rfl, x, dx, _, le, us, rfl, ex_slt e2 hsl, rfl, ex_l e2 hle, ?_⟩
  refine for_list (K := K) (a := le) (xs := us) (fun i σ H' => Ex H H' ∧ ∃ vs m1 m2, H' D = some (.lst vs) ∧ All2 (VP K H') vs (conflM s' (es.take i) fs) ∧ σ = [some (.ref x), some (.ref y), some (.str s'), some (.ref D), m1, m2])
      ⟨e2, [], _, _, upd_same, .nil, rfl⟩ (fun i σ H' _ p => ex_l p.1 hle) ?_ ?_
  · rintro i z σ H' hz' ⟨e, vs, m1, m2, hD', hvs, rfl⟩
    obtain ⟨en, he, hve⟩ := hv.get hz'
    have hen := List.mem_of_getElem? he
    have hve' := hve.ex (ExN.of e)
    obtain ⟨c, x1, y1, rfl, hc, hx1, hy1⟩ := id hve'
    refine ⟨_, rfl, y, dy, _, rfl, ex_slt e hsl2, _, rfl, _, en, n, rfl, hve', (ok1.all en hen).key, hn, ?_⟩
    refine ⟨y, en.key, n, fs, rfl, h2.mono e, p2, fun v hvv => ?_⟩
    have hlt : vs.length < sizeLine := by
      have h3 := hvs.len
      have h4 := confl_len s' (es.take i) fs
      rw [List.length_take] at h4
      exact szK (by omega)
    refine ⟨_, rfl, rfl, _, rfl, ?_⟩
    have fin : ∀ H2, Ex H' H2 → confP s' fs en = false → Ex H H2 ∧ ∃ vs m1 m2, H2 D = some (.lst vs) ∧ All2 (VP K H2) vs (conflM s' (es.take (i + 1)) fs) ∧ [some (.ref x), some (.ref y), some (.str s'), some (.ref D), some (.ref c), some v] = [some (.ref x), some (.ref y), some (.str s'), some (.ref D), m1, m2] := fun H2 e3 hc => by
      refine ⟨e.trans e3, vs, _, _, e3 _ _ hD', ?_, rfl⟩
      rw [confl_snoc he, if_neg (by rw [hc]; decide), List.append_nil]
      exact hvs.imp fun _ _ z => z.ex (ExN.of e3)
    rw [hvv.isN]
    cases hf : findE fs en.key with
    | none => exact ifF rfl (iteF (fin H' (Ex.refl _) (by unfold confP; rw [hf])))
    | some f =>
      rw [hf] at hvv
      have hfm : f ∈ fs := List.mem_of_find?_eq_some hf
      refine ifT rfl ⟨_, rfl, _, rfl, _, rfl, _, v, s', en, f, n, rfl, hve', hvv, ok1.all en hen, ok2.all f hfm, hn2, fun H2 e3 => ⟨_, rfl, ?_⟩⟩
      have ecp : confP s' fs en = inConf s' en f := by
        unfold confP
        rw [hf]
      refine ite2 (fun hi => ?_) fun hi => fin H2 e3 (by rw [ecp]; exact Bool.eq_false_iff.mpr hi)
      refine ⟨_, rfl, .inl ⟨rfl, _, sq_of (e3 _ _ hD')⟩, ?_⟩
      refine ⟨_, rfl, _, _, _, _, rfl, rfl, ex_t e3 hc, atI0 rfl, _, rfl, _, en, n, rfl, hve'.ex (ExN.of e3), (ok1.all en hen).key, hn, sz2, fun t ht => ?_⟩
      have hD2 := e3 _ _ hD'
      have hDt : D ≠ t := ne_of_none hD2 ht
      have hD3 : upd H2 t (.tup [.int en.p, .int en.key]) D = some (.lst vs) := by rw [upd_ne hDt]; exact hD2
      refine ⟨D, vs, _, rfl, rfl, hD3, hlt, ?_⟩
      have eN := (ExN.of (e3.trans (Ex.new ht))).trans (ExN.list (ys := vs ++ [.ref t]) hD3)
      refine ⟨Ex.mut ((e.trans e3).trans (Ex.new ht)) hDH, _, _, _, upd_same, ?_, rfl⟩
      rw [confl_snoc he, if_pos (by rw [ecp]; exact hi)]
      refine (hvs.imp fun _ _ z => z.ex eN).app (.cons ⟨t, rfl, st_of ?_⟩ .nil)
      rw [upd_ne (Ne.symm hDt), upd_same]
  · rintro σ H' ⟨e, vs, m1, m2, hD', hvs, rfl⟩
    rw [lu, List.take_length] at hvs
    exact ⟨_, rfl, hE D vs H' hDH e hD' hvs⟩
def spJoined (K : Fg) : Sp := fun vs H Q _ => ∃ (a b : Addr) (us ws : List V) (es fs : List Ent) (n : Nat) (Ls : List Lnk), vs = [.ref a, .ref b] ∧ SqL K H a us ∧ SqL K H b ws ∧ All2 (VE K H) us es ∧ All2 (VE K H) ws fs ∧ EntsOk n es ∧ EntsOk n fs ∧ 1 ≤ n ∧ es.length + fs.length < 64 ∧
  linksM es fs = some Ls ∧ ∀ l xs H', H l = none → Ex H H' → H' l = some (.lst xs) → All2 (VE K H') xs (joinL Ls) → Q (.ref l) H'
theorem lnk_len {A B : Int → Option Ent} : ∀ {ks : List Int} {g : Int} {prev : Option (Int × Lnk)} {Ls : List Lnk}, linksG A B ks g prev = some Ls → Ls.length = ks.length
  | [], _, _, _, h => by
    rw [← Option.some.inj h]
    rfl
  | k :: ks, g, prev, Ls, h => by
    unfold linksG at h
    split at h
    · cases h
    · split at h
      · cases h
      · rename_i L hL0 _ hb0
        cases e : linksG A B ks (g + growO (A k)) (some (k, L)) with
        | none => rw [e] at h; cases h
        | some Ls' =>
          rw [e] at h
          rw [← Option.some.inj h, List.length_cons, List.length_cons, lnk_len e]
theorem insK_len (k : Int) : ∀ l : List Int, (insK k l).length ≤ l.length + 1
  | [] => Nat.le_refl _
  | a :: l => by
    unfold insK
    split
    · exact Nat.le_refl _
    · split
      · exact Nat.le_succ _
      · have := insK_len k l
        show (insK k l).length + 1 ≤ l.length + 1 + 1
        omega
theorem keysU_len : ∀ l : List Int, (keysU l).length ≤ l.length
  | [] => Nat.le_refl _
  | a :: l => by
    have h1 := keysU_len l
    have h2 := insK_len a (keysU l)
    show (insK a (keysU l)).length ≤ l.length + 1
    omega
theorem links_few {es fs : List Ent} {Ls : List Lnk} (h : linksM es fs = some Ls) : Ls.length ≤ es.length + fs.length := by
  rw [lnk_len h]
  have := keysU_len ((es ++ fs).map Ent.key)
  rw [List.length_map, List.length_append] at this
  exact this
theorem ok_joined {w : World} {K : Fg} {mg : Str → Option Value} {base : Heap} (T : Top K mg) (D_links : Df PR w K mg base 3 "links" [] (spLinks K)) : FnA PR w K mg base 4 (He.ga K "joined") [] ((spJoined K)) := by
  obtain ⟨_, fd, F⟩ := T.f_joined
  refine fna_d0 F sc_joined (fun vs H Q E h => ?_) (fun _ _ _ _ _ _ us hl => match us, hl with | [_, _], _ => rfl) (fun cdv A outer s H vs Q E hr h => ?_)
  · obtain ⟨a, b, us, ws, es, fs, n, Ls, rfl, hA, hB, hv, hw, ok1, ok2, hn, hz, hL, hQ⟩ := h; rfl
  obtain ⟨a, b, us, ws, es, fs, n, Ls, rfl, hA, hB, hv, hw, ok1, ok2, hn, hz, hL, hQ⟩ := h
  refine ⟨_, (pss_one (ps_ret (pe_lc (own := [("place", 2), ("old", 3), ("_", 4), ("new", 5)]) (g := gTup K 4 (gCons (gName 2) (gCons (gName 3) (gCons (gName 4) (gCons (gName 5) gNil))))) rfl sc_joined.nd (pi_list (pe_df D_links (hr.mono (by decide)) (by rfl) (fun σ => passAt tkOf σ) (pa_cons (pv 0) (pa_cons (pv 1) pa_nil)))) (blkOk_by (own := [("place", 2), ("old", 3), ("_", 4), ("new", 5)]) (N := ["first", "second", "place", "old", "_", "new"]) (sc := defScope s_joined) (by decide +kernel)) (fun _ _ _ _ _ => (pg_tup (by rfl) (pgs_cons (pg_name (i := 2) sc_joined.nd rfl (Or.inl rfl)) (pgs_cons (pg_name (i := 3) sc_joined.nd rfl (Or.inl rfl)) (pgs_cons (pg_name (i := 4) sc_joined.nd rfl (Or.inl rfl)) (pgs_cons (pg_name (i := 5) sc_joined.nd rfl (Or.inl rfl)) pgs_nil)))))) (fun _ _ _ _ _ => (pts_one (pt_cmpR (r := rNeD K) (op_neD hr.units) (pv 3) (pv 5) (nomark _)))) (fun _ _ _ _ _ => (pe_tup (pa_cons (pv 2) (pa_cons (pv 3) (pa_cons (pv 5) pa_nil)))))))), ?_⟩
  refine ⟨_, rfl, _, rfl, a, b, us, ws, es, fs, n, rfl, hA, hB, hv, hw, fun e he => (ok1.all e he).key, fun e he => (ok2.all e he).key, hn, chain_keys ok1.ord, chain_keys ok2.ord, hz, fun Ls' l xs H1 hL' hl e1 hl1 hxs => ?_, fun hL' => by rw [hL] at hL'; cases hL'⟩
  have eL : Ls' = Ls := by
    rw [hL] at hL'
    exact (Option.some.inj hL').symm
  subst eL
  refine ⟨l, rfl, ⟨_, sq_of hl1⟩, fun D hD => ?_⟩
  have lx := hxs.len
  have hfew := links_few hL
  refine lc_fmL (m := fun i => (Ls'[i]?).bind fun L => if L.a = L.c then none else some (⟨L.p, L.a, L.c⟩ : Ent)) (R := fun y e H => VE K H y e) (sq_of hl1) (szK (by omega)) hD (fun y e H H' en h => h.ex en) (fun i x H2 Qy Qn hi e ky kn => ?_) fun ys H2 e hy _ hr => ?_
  · obtain ⟨L, hLi, hvl⟩ := hxs.get hi
    obtain ⟨t, x1, x2, x3, rfl, ht, v1, v2, v3⟩ := hvl.ex (ExN.of e)
    refine ⟨t, _, rfl, ht, rfl, _, _, rfl, _, _, rfl, _, _, rfl, _, _, rfl, rfl, rfl, _, rfl, _, rfl, ?_⟩
    refine rNe_rows v1 v3 ⟨_, rfl, ?_⟩
    refine ite2 (fun h => ?_) fun h => kn H2 (Ex.refl _) ?_
    · have hne : L.a ≠ L.c := fun z => by rw [decide_eq_true z] at h; cases h
      refine ⟨_, rfl, _, rfl, _, rfl, sz3, fun q hq => ky _ ⟨L.p, L.a, L.c⟩ _ (Ex.new hq) (by rw [hLi]; exact if_neg hne) ⟨q, _, _, rfl, st_of upd_same, v1.ex (ExN.of (Ex.new hq)), v3.ex (ExN.of (Ex.new hq))⟩⟩
    · have he : L.a = L.c := Classical.byContradiction fun z => h (by rw [decide_eq_false z]; rfl)
      rw [hLi]
      exact if_pos he
  · refine hQ D ys H2 (fresh_back e1 hD) (e1.trans e) hy ?_
    have h2 := hr
    rw [lx, fm_list] at h2
    exact h2
def spAdd (K : Fg) : Sp := fun vs H Q _ => ∃ (x y : Addr) (n : Nat) (es fs : List Ent) (Ls : List Lnk), vs = [.ref x, .ref y] ∧ Two K H x y n es fs ∧ linksM es fs = some Ls ∧ EntsOk n (joinL Ls) ∧
  ∀ z H', H z = none → Ex H H' → VLay K H' (He.ga K "Layer") z n (joinL Ls) → Q (.ref z) H'
theorem ok_Layer_add {w : World} {K : Fg} {mg : Str → Option Value} {base : Heap} (T : Top K mg) (M_Layer2 : Mkr PR w K mg base 6 (He.ga K "Layer") [] (spLayInit K)) (D_joined : Df PR w K mg base 4 "joined" [] (spJoined K)) : FnA PR w K mg base 8 (He.ma K (He.ga K "Layer") "__add__") [] ((spAdd K)) := by
  obtain ⟨_, fd, F⟩ := T.m_Layer_add
  refine fna_d0 F sc_Layer_add (fun vs H Q E h => ?_) (fun _ _ _ _ _ _ us hl => match us, hl with | [_, _], _ => rfl) (fun cdv A outer s H vs Q E hr h => ?_)
  · obtain ⟨x, y, n, es, fs, Ls, rfl, ⟨h1, h2, ok1, ok2, hn, hn2, hz⟩, hL, okJ, hQ⟩ := h; rfl
  obtain ⟨x, y, n, es, fs, Ls, rfl, ⟨h1, h2, ok1, ok2, hn, hn2, hz⟩, hL, okJ, hQ⟩ := h
  refine ⟨_, (pss_cons (ps_if (pt_cmpR op_ne (SlX.pe_sl (pv 0)) (SlX.pe_sl (pv 1)) (nomark _)) (pss_one ps_never) pss_nil)
    (pss_one (ps_ret (pe_mk M_Layer2 (hr.mono (by decide)) (by rfl) T.g_Layer passLA (pa_cons (SlX.pe_sl (pv 0)) (pa_cons (pe_df D_joined (hr.mono (by decide)) (by rfl) (fun σ => passAt tkOf σ) (pa_cons (SlX.pe_sl (pv 0)) (pa_cons (SlX.pe_sl (pv 1)) pa_nil))) pa_nil)))))), ?_⟩
  obtain ⟨dx, le, lk, us, hsl, hle, hv, _⟩ := id h1
  obtain ⟨dy, me, mk, ws, hsl2, hme, hw, _⟩ := id h2
  refine ⟨_, rfl, x, _, dx, _, _, 2, _, rfl, hsl, T.c_Layer, T.s_Layer_width, rfl, _, rfl, y, _, dy, _, _, 2, _, rfl, hsl2, T.c_Layer, T.s_Layer_width, rfl, rfl, _, rfl, ?_⟩
  refine iteNS rfl ?_
  refine ⟨_, rfl, x, _, dx, _, _, 2, _, rfl, hsl, T.c_Layer, T.s_Layer_width, rfl, ?_⟩
  refine ⟨_, rfl, x, _, dx, _, _, 0, _, rfl, hsl, T.c_Layer, T.s_Layer__entries, rfl, _, rfl, y, _, dy, _, _, 0, _, rfl, hsl2, T.c_Layer, T.s_Layer__entries, rfl, le, me, us, ws, es, fs, n, Ls, rfl, hle, hme, hv, hw, ok1, ok2, hn, hz, hL, fun l xs H1 hl e1 hl1 hxs => ?_⟩
  refine ⟨rfl, fun z dz hz1 hdz hne => ?_⟩
  have g := mk_en (C := He.ga K "Layer") hz1 hdz
  have lj : (joinL Ls).length ≤ Ls.length := List.length_filterMap_le _ _
  have lf := links_few hL
  refine ⟨z, dz, l, true, xs, joinL Ls, n, rfl, fresh_of hne, ex_l g (sq_of hl1), ves_ex (ExN.of g) hxs, hn, hn2, okJ, by omega, fun H2 e2 hlay => ⟨rfl, ?_⟩⟩
  exact hQ z H2 (fresh_back e1 hz1) (e1.trans (ExI.new hz1 hdz e2)) hlay

end Kx

end

section
set_option Elab.async false
set_option linter.all false
set_option maxRecDepth 100000
set_option maxHeartbeats 4000000
namespace Kx
open PySem PySem.Spec PyProof.Rows L2 Evl Pl
/-! ### moved, merged -/
def spMovE (K : Fg) : Sp := fun vs H Q _ => ∃ (u : V) (y : Addr) (n : Nat) (e : Ent) (fs : List Ent), vs = [u, .ref y] ∧ VE K H u e ∧ VLay K H (He.ga K "Layer") y n fs ∧ EntsOk n fs ∧ EntOk n e ∧ fs.length ≤ 1000 ∧ 1 ≤ n ∧ n ≤ 1000 ∧
  (∀ f, findE fs e.key = some f → ∃ a b c, e.o = some a ∧ e.n = some b ∧ f.n = some c) ∧ ∀ v H', Ex H H' → VE K H' v (movE fs e) → Q v H'
theorem ok_moved_entry {w : World} {K : Fg} {mg : Str → Option Value} {base : Heap} (T : Top K mg) (D_entry_key : Df PR w K mg base 1 "entry_key" [] (spKey K)) (D_changed_columns : Df PR w K mg base 1 "changed_columns" [] (spDiff K)) (D_with_columns : Df PR w K mg base 1 "with_columns" [] (spWith K)) (D_Layer_growth_before : MtS PR w K mg base 2 (He.ga K "Layer") "growth_before" (spGrowB K)) (D_Layer_entry : MtS PR w K mg base 2 (He.ga K "Layer") "entry" (spLayEntry K)) : FnA PR w K mg base 3 (He.ga K "moved_entry") [] ((spMovE K)) := by
  obtain ⟨_, fd, F⟩ := T.f_moved_entry
  refine fna_d0 F sc_moved_entry (fun vs H Q E h => ?_) (fun _ _ _ _ _ _ us hl => match us, hl with | [_, _], _ => rfl) (fun cdv A outer s H vs Q E hr h => ?_)
  · obtain ⟨u, y, n, e, fs, rfl, hve, h2, ok2, ok1, hz, hn, hn2, hall, hQ⟩ := h; rfl
  obtain ⟨u, y, n, e, fs, rfl, hve, h2, ok2, ok1, hz, hn, hn2, hall, hQ⟩ := h
  refine ⟨_, (pss_cons (ps_asg (pv 0) (pg_tup (by rfl) (pgs_cons (pg_name (i := 2) sc_moved_entry.nd rfl (Or.inl rfl)) (pgs_cons (pg_name (i := 3) sc_moved_entry.nd rfl (Or.inl rfl)) (pgs_cons (pg_name (i := 4) sc_moved_entry.nd rfl (Or.inl rfl)) pgs_nil)))))
    (pss_cons (ps_set (i := 5) sc_moved_entry.nd rfl (Or.inl rfl) (pe_df D_entry_key (hr.mono (by decide)) (by rfl) passLA (pa_cons (pv 0) pa_nil)))
    (pss_cons (ps_set (i := 2) sc_moved_entry.nd rfl (Or.inl rfl) (pe_op op_add (pv 2) (pe_mtS (pv 1) D_Layer_growth_before (hr.mono (by decide)) passLA (pa_cons (pv 5) pa_nil))))
    (pss_cons (ps_set (i := 6) sc_moved_entry.nd rfl (Or.inl rfl) (pe_mtS (pv 1) D_Layer_entry (hr.mono (by decide)) passLA (pa_cons (pv 5) pa_nil)))
    (pss_cons (ps_if (pt_cmpR op_isN (pv 6) pe_non (nomark _)) (pss_one (ps_ret (pe_tup (pa_cons (pv 2) (pa_cons (pv 3) (pa_cons (pv 4) pa_nil)))))) pss_nil)
    (pss_one (ps_ret (pe_tup (pa_cons (pv 2) (pa_cons (pe_ix ix_tup (pv 6) pe_int (fun _ _ => rfl)) (pa_cons (pe_df D_with_columns (hr.mono (by decide)) (by rfl) passLA (pa_cons (pe_ix ix_tup (pv 6) pe_int (fun _ _ => rfl)) (pa_cons (pe_df D_changed_columns (hr.mono (by decide)) (by rfl) passLA (pa_cons (pv 3) (pa_cons (pv 4) pa_nil))) (pa_cons (pv 4) pa_nil)))) pa_nil))))))))))), ?_⟩
  obtain ⟨dy, me, mk, ws, hsl2, hme, hw, _⟩ := id h2
  obtain ⟨a, x1, x2, rfl, ha, hx1, hx2⟩ := id hve
  have p2 := chain_keys ok2.ord
  refine ⟨_, rfl, a, _, rfl, ha, rfl, _, _, rfl, _, _, rfl, _, _, rfl, rfl, ?_⟩
  refine ⟨_, rfl, _, e, n, rfl, hve, ok1.key, hn, ?_⟩
  refine ⟨_, rfl, _, rfl, y, dy, _, rfl, hsl2, _, rfl, y, e.key, n, fs, rfl, h2, p2, hz, fun H1 e1 => ⟨_, _, rfl, rfl, ?_⟩⟩
  refine ⟨_, rfl, y, dy, _, rfl, ex_slt e1 hsl2, _, rfl, y, e.key, n, fs, rfl, h2.mono e1, p2, fun v hvv => ?_⟩
  refine ⟨_, rfl, rfl, _, rfl, ?_⟩
  rw [hvv.isN]
  cases hf : findE fs e.key with
  | none =>
    refine ifT rfl ⟨_, rfl, _, rfl, _, rfl, sz3, fun t ht => hQ _ _ (e1.trans (Ex.new ht)) ?_⟩
    have em : movE fs e = ⟨e.p + growB fs e.key, e.o, e.n⟩ := by
      unfold movE
      rw [hf]
    have en := ExN.of (e1.trans (Ex.new (o := .tup [.int (e.p + growB fs e.key), x1, x2]) ht))
    rw [em]
    exact ⟨t, _, _, rfl, st_of upd_same, hx1.ex en, hx2.ex en⟩
  | some f =>
    obtain ⟨ra, rb, rc, ea, eb, ec⟩ := hall f hf
    rw [hf] at hvv
    have hfm : f ∈ fs := List.mem_of_find?_eq_some hf
    have okf := ok2.all f hfm
    have lc0 : ORowOk n f.n := okf.n
    have la0 : ORowOk n e.o := ok1.o
    have lb0 : ORowOk n e.n := ok1.n
    rw [ec] at lc0
    rw [ea] at la0
    rw [eb] at lb0
    have lc : rc.length = n := lc0
    have la : ra.length = n := la0
    have lb : rb.length = n := lb0
    obtain ⟨b, y1, y2, rfl, hb, hy1, hy2⟩ := id hvv
    rw [ec] at hy2
    rw [ea] at hx1
    rw [eb] at hx2
    obtain ⟨ac, rfl, hac⟩ := id hy2
    obtain ⟨aa, rfl, haa⟩ := id hx1
    obtain ⟨ab, rfl, hab⟩ := id hx2
    refine ifF rfl ⟨_, rfl, _, rfl, b, _, _, _, rfl, rfl, hb, atI2 rfl, _, rfl, b, _, _, _, rfl, rfl, hb, atI2 rfl, _, rfl, _, rfl, aa, ab, ra, rb, rfl, ex_t e1 haa, ex_t e1 hab, by omega, by omega, fun l H2 _ e2 hl => ?_⟩
    refine ⟨_, rfl, ac, l, ab, rc, rb, diffC ra rb, rfl, ex_t e2 hac, sq_of hl, ex_t (e1.trans e2) hab, by omega, by omega, fun t H3 _ e3 ht3 => ⟨sz3, fun q hq => ?_⟩⟩
    have e123 := ((e1.trans e2).trans e3).trans (Ex.new (o := .tup [.int (e.p + growB fs e.key), .ref ac, .ref t]) hq)
    refine hQ _ _ e123 ?_
    have em : movE fs e = ⟨e.p + growB fs e.key, some rc, some (withC rc ra rb)⟩ := by
      unfold movE
      rw [hf]
      show (⟨e.p + growB fs e.key, f.n, withO f.n e.o e.n⟩ : Ent) = _
      rw [ec, ea, eb]
      rfl
    rw [em]
    exact ⟨q, _, _, rfl, st_of upd_same, ⟨ac, rfl, ex_t ((e2.trans e3).trans (Ex.new hq)) hac⟩, ⟨t, rfl, st_of (Ex.new hq _ _ ht3)⟩⟩
theorem confl_not {s : Str} {es fs : List Ent} (h : conflM s es fs = []) {e : Ent} (he : e ∈ es) {f : Ent} (hf : findE fs e.key = some f) : ∃ a b c, e.o = some a ∧ e.n = some b ∧ f.n = some c := by
  unfold conflM at h
  rw [List.map_eq_nil_iff, List.filter_eq_nil_iff] at h
  have h2 := h e he
  unfold confP at h2
  rw [hf] at h2
  have h3 : ¬ (inConf s e f = true) := h2
  have nh : ∀ z : Half e ∨ Half f, False := fun z => h3 (inConf_half (.inr z))
  obtain ⟨ep, eo, en⟩ := e
  obtain ⟨fp, fo, fn⟩ := f
  cases eo with
  | none => exact (nh (.inl (.inl rfl))).elim
  | some a =>
    cases en with
    | none => exact (nh (.inl (.inr rfl))).elim
    | some b =>
      cases fn with
      | none => exact (nh (.inr (.inr rfl))).elim
      | some c => exact ⟨a, b, c, rfl, rfl, rfl⟩
/-- it raises Conflict -/
def CfE (K : Fg) (H : Hp) (ps : List (Int × Int)) (E : XK) : Prop := ∀ d t ws H', H d = none → Ex H H' → H' d = some (.xd [("conflicts", .ref t)]) → SqT K H' t ws → All2 (VP K H') ws ps → E (.ref (He.ga K "Conflict")) (some d) H'
def spMoved (K : Fg) : Sp := fun vs H Q E => ∃ (x y : Addr) (n : Nat) (es fs : List Ent) (s : Str), vs = [.ref x, .ref y, .str s] ∧ Two K H x y n es fs ∧ Good s ∧ (linksM (turnedM es) fs).isSome = true ∧
  (conflM s es fs = [] → EntsOk n (movM es fs) ∧ ∀ z H', H z = none → Ex H H' → VLay K H' (He.ga K "Layer") z n (movM es fs) → Q (.ref z) H') ∧ (conflM s es fs ≠ [] → CfE K H (conflM s es fs) E)
theorem ok_moved {w : World} {K : Fg} {mg : Str → Option Value} {base : Heap} (T : Top K mg) (D_conflicts : Df PR w K mg base 9 "conflicts" ["by"] (spConfl K)) (M_Layer2 : Mkr PR w K mg base 6 (He.ga K "Layer") [] (spLayInit K)) (D_moved_entry : Df PR w K mg base 3 "moved_entry" [] (spMovE K)) (I_Layer : FnS PR w K mg base (L2.CX PR w) 1 (He.ma K (He.ga K "Layer") "__iter__") (spIter K (He.ga K "Layer") 0)) : FnA PR w K mg base 10 (He.ga K "moved") ["by"] ((spMoved K)) := by
  obtain ⟨_, fd, F⟩ := T.f_moved
  refine fna_d1 F sc_moved (fun vs H Q E h => ?_) rfl (fun _ _ _ _ _ _ us z hl => match us, hl with | [_, _], _ => rfl) (fun cdv A outer s H vs Q E hr h => ?_)
  · obtain ⟨x, y, n, es, fs, s', rfl, tw, hg, hL, hok, hcf⟩ := h; rfl
  obtain ⟨x, y, n, es, fs, s', rfl, tw, hg, hL, hok, hcf⟩ := h
  refine ⟨_, (pss_cons (ps_set (i := 3) sc_moved.nd rfl (Or.inl rfl) (pe_dfK D_conflicts (hr.mono (by decide)) (by rfl) (fun σ => passAt tkOf σ) (pa_cons (pv 0) (pa_cons (pv 1) pa_nil)) (pk_cons (pv 2) pk_nil)))
    (pss_cons (ps_if (pt_truth (pv 3) (by intro _; rfl)) (pss_one (ps_rx1 rfl T.x_Conflict hr (by decide) tkOf (pa_cons (pe_callTy call_tuple_of (by rfl) T.b_tuple (by decide +kernel) (pa_cons (pv 3) pa_nil)) pa_nil) (by rfl))) pss_nil)
    (pss_one (ps_ret (pe_mk M_Layer2 (hr.mono (by decide)) (by rfl) T.g_Layer passLA (pa_cons (SlX.pe_sl (pv 0)) (pa_cons (pe_lc (own := [("entry", 4)]) (g := gName 4) (tt := tYes) rfl sc_moved.nd (pi_own (pv 0) (iterC_of T.m_Layer_iter.1) I_Layer (hr.mono (by decide)) passL) (blkOk_by (own := [("entry", 4)]) (N := ["layer", "over", "by", "found", "entry"]) (sc := defScope s_moved) (by decide +kernel)) (fun _ _ _ _ _ => (pg_name (i := 4) sc_moved.nd rfl (Or.inl rfl))) (fun _ _ _ _ _ => pts_nil) (fun _ _ _ _ _ => (pe_df D_moved_entry (hr.mono (by decide)) (by rfl) passLA (pa_cons (pv 4) (pa_cons (pv 1) pa_nil))))) pa_nil))))))), ?_⟩
  obtain ⟨h1, h2, ok1, ok2, hn, hn2, hz⟩ := id tw
  obtain ⟨dx, le, lk, us, hsl, hle, hv, _⟩ := id h1
  have lu := hv.len
  refine ⟨_, rfl, _, rfl, _, rfl, rfl, x, y, n, es, fs, s', rfl, tw, hg, hL, fun l ws H1 hl e1 hl' hvs => ?_⟩
  refine ⟨_, rfl, _, .inl ⟨ws, sq_of hl', rfl⟩, ?_⟩
  have lw := hvs.len
  by_cases hc : conflM s' es fs = []
  · have hw : ws = [] := by
      rw [hc] at lw
      exact List.length_eq_zero_iff.mp lw
    subst hw
    obtain ⟨okm, hQ⟩ := hok hc
    refine ifF rfl ?_
    refine ⟨_, rfl, x, _, dx, _, _, 2, _, rfl, ex_slt e1 hsl, T.c_Layer, T.s_Layer_width, rfl, _, rfl, x, dx, _, le, us, rfl, ex_slt e1 hsl, rfl, ex_l e1 hle, fun D hD => ?_⟩
    refine lc_fmL (m := fun i => (es[i]?).bind fun e => some (movE fs e)) (R := fun y e H => VE K H y e) (ex_l e1 hle) (szK (by omega)) hD (fun y e H H' en h => h.ex en) (fun i z H2 Qy Qn hi e ky kn => ?_) fun ys H2 e hy _ hr => ?_
    · obtain ⟨en, he, hve⟩ := hv.get hi
      have hen := List.mem_of_getElem? he
      refine ⟨rfl, _, rfl, _, rfl, z, y, n, en, fs, rfl, hve.ex (ExN.of (e1.trans e)), h2.mono (e1.trans e), ok2, ok1.all en hen, by omega, hn, hn2, fun f hf => confl_not hc hen hf, fun v H3 e3 hv3 => ky v _ H3 e3 (by rw [he]; rfl) hv3⟩
    · have hr2 : All2 (VE K H2) ys (movM es fs) := by
        have h3 := hr
        rw [lu, fm_list, fm_some] at h3
        exact h3
      refine ⟨rfl, fun z dz hz1 hdz hne => ?_⟩
      have g := mk_en (C := He.ga K "Layer") hz1 hdz
      refine ⟨z, dz, D, true, ys, movM es fs, n, rfl, fresh_of hne, ex_l g (sq_of hy), ves_ex (ExN.of g) hr2, hn, hn2, okm, by unfold movM; rw [List.length_map]; omega, fun H3 e3 hlay => ⟨rfl, ?_⟩⟩
      exact hQ z H3 (fresh_back (e1.trans e) hz1) ((e1.trans e).trans (ExI.new hz1 hdz e3)) hlay
  · have hw : ws ≠ [] := fun z => hc (by rw [z] at lw; exact List.length_eq_zero_iff.mp lw.symm)
    refine ifT (by cases ws with | nil => exact absurd rfl hw | cons a b => rfl) ?_
    refine ⟨_, rfl, l, ws, rfl, .inl ⟨sq_of hl', fun t ht => ⟨_, rfl, fun d hd => ?_⟩⟩⟩
    have e2 := e1.trans (Ex.new (o := .tup ws) ht)
    refine hcf hc d t ws _ (fresh_back e2 hd) (e2.trans (Ex.new hd)) upd_same (st_of (Ex.new hd _ _ upd_same)) (hvs.imp fun _ _ z => z.ex (ExN.of ((Ex.new ht).trans (Ex.new hd))))
/-- one more layer merged -/
structure StepOk (n : Nat) (s : Str) (r p r' : List Ent) : Prop where
  lk : (linksM (turnedM p) r).isSome = true
  nc : conflM s p r = []
  mv : EntsOk n (movM p r)
  lj : ∃ Ls, linksM r (movM p r) = some Ls ∧ joinL Ls = r'
  ok : EntsOk n r'
  z : p.length + r.length < 64
  z2 : r.length + p.length < 64
def IsLay (K : Fg) (H : Hp) (n : Nat) (v : V) (es : List Ent) : Prop := ∃ y, v = .ref y ∧ VLay K H (He.ga K "Layer") y n es
def spMergedI (K : Fg) : Sp := fun vs H Q E => ∃ (x p : Addr) (rest : List V) (s : Str) (n : Nat) (ps : List (List Ent)) (R : Nat → List Ent) (k : Nat), vs = [.ref x, .str s, .ref p] ∧ SqT K H p rest ∧ All2 (IsLay K H n) rest ps ∧ VLay K H (He.ga K "Layer") x n (R 0) ∧
  Good s ∧ EntsOk n (R 0) ∧ (∀ e ∈ ps, EntsOk n e) ∧ 1 ≤ n ∧ n ≤ 1000 ∧ (∀ i p, i < k → ps[i]? = some p → StepOk n s (R i) p (R (i + 1))) ∧
  ((k = ps.length ∧ ∀ z H', Ex H H' → VLay K H' (He.ga K "Layer") z n (R k) → Q (.ref z) H') ∨
   (k + 1 = ps.length ∧ ∃ p, ps[k]? = some p ∧ (linksM (turnedM p) (R k)).isSome = true ∧ conflM s p (R k) ≠ [] ∧ p.length + (R k).length < 64 ∧ CfE K H (conflM s p (R k)) E))
theorem okR {n : Nat} {s : Str} {ps : List (List Ent)} {R : Nat → List Ent} {k : Nat} (h0 : EntsOk n (R 0)) (hk : k ≤ ps.length) (h : ∀ i p, i < k → ps[i]? = some p → StepOk n s (R i) p (R (i + 1))) : ∀ i, i ≤ k → EntsOk n (R i)
  | 0, _ => h0
  | i + 1, hi => by
    have hlt : i < ps.length := by omega
    exact (h i _ (by omega) (List.getElem?_eq_getElem hlt)).ok
theorem walk_merged {w : World} {K : Fg} {mg : Str → Option Value} {base : Heap} (T : Top K mg) (D_check_rule : Df PR w K mg base 2 "check_rule" [] (spRule K)) (D_moved : Df PR w K mg base 10 "moved" ["by"] (spMoved K)) (D_Layer_add : MtS PR w K mg base 8 (He.ga K "Layer") "__add__" (spAdd K)) : Walked PR w K mg base 11 ["first", "by", "rest", "result", "layer"] "merged" s_merged (He.ga K "merged") ((spMergedI K)) := by
  intro cdv A outer s H vs Q E hr h
  obtain ⟨x, p, rest, s', n, ps, R, k, rfl, hp, hps, hx, hg, ok0, okp, hn, hn2, hst, hend⟩ := h
  refine ⟨_, (pss_cons (ps_expr (pe_df D_check_rule (hr.mono (by decide)) (by rfl) (fun σ => passAt tkOf σ) (pa_cons (pv 1) pa_nil)))
    (pss_cons (ps_set (i := 3) sc_merged.nd rfl (Or.inl rfl) (pv 0))
    (pss_cons (ps_for poOf rfl (pi_tup (pv 2)) (pg_name (i := 4) sc_merged.nd rfl (Or.inl rfl)) (pss_one (ps_set (i := 3) sc_merged.nd rfl (Or.inl rfl) (pe_addS D_Layer_add T.o_Layer.sf (hr.mono (by decide)) (fun σ => passAt tkOf σ) (pv 3) (pe_dfK D_moved (hr.mono (by decide)) (by rfl) (fun σ => passAt tkOf σ) (pa_cons (pv 4) (pa_cons (pv 3) pa_nil)) (pk_cons (pv 1) pk_nil))))))
    (pss_one (ps_ret (pv 3)))))), ?_⟩
  have lr := hps.len
  have hk : k ≤ ps.length := by
    rcases hend with h | h
    · omega
    · omega
  have okr := okR ok0 hk hst
  refine ⟨_, rfl, s', rfl, hg, ?_⟩
  refine ⟨_, rfl, ?_⟩
  refine ⟨_, rfl, p, rfl, ⟨_, hp⟩, ?_⟩
  refine for_tup (K := K) (a := p) (xs := rest) (fun i σ H' => i ≤ k ∧ Ex H H' ∧ ∃ r m1, σ = [some (.ref x), some (.str s'), some (.ref p), some (.ref r), m1] ∧ VLay K H' (He.ga K "Layer") r n (R i)) ⟨Nat.zero_le _, Ex.refl _, x, _, rfl, hx⟩ (fun i σ H' _ q => ex_t q.2.1 hp) ?_ ?_
  · rintro i z σ H' hz ⟨hik, e, r, m1, rfl, hr0⟩
    obtain ⟨pe, hpe, y, rfl, hy⟩ := hps.get hz
    have okpe := okp pe (List.mem_of_getElem? hpe)
    have hlt := (List.getElem?_eq_some_iff.mp hz).1
    by_cases hlt2 : i < k
    · have S := hst i pe hlt2 hpe
      obtain ⟨Ls, hLs, ej⟩ := S.lj
      refine ⟨_, rfl, _, rfl, _, rfl, _, rfl, rfl, y, r, n, pe, R i, s', rfl, ⟨hy.mono e, hr0, okpe, okr i hik, hn, hn2, S.z⟩, hg, S.lk, fun _ => ⟨S.mv, fun zz H2 _ e2 hlay => ?_⟩, fun hc => absurd S.nc hc⟩
      obtain ⟨dr, re, rk', us, hslr, _⟩ := id hr0
      obtain ⟨dz, ze, zk, zs, hslz, _⟩ := id hlay
      refine ⟨r, dr, _, zz, dz, _, rfl, rfl, ex_slt e2 hslr, hslz, r, zz, n, R i, movM pe (R i), Ls, rfl, ⟨hr0.mono e2, hlay, okr i hik, S.mv, hn, hn2, by unfold movM; rw [List.length_map]; exact S.z2⟩, hLs, by rw [ej]; exact S.ok, fun q H3 _ e3 hq => ?_⟩
      rw [ej] at hq
      exact ⟨by omega, (e.trans e2).trans e3, q, _, rfl, hq⟩
    · rcases hend with ⟨h1, _⟩ | ⟨h1, pk, hpk, hL, hne, hzz, hcf⟩
      · omega
      have eik : i = k := by omega
      subst eik
      have epk : pk = pe := by
        rw [hpe] at hpk
        exact (Option.some.inj hpk).symm
      subst epk
      refine ⟨_, rfl, _, rfl, _, rfl, _, rfl, rfl, y, r, n, pk, R i, s', rfl, ⟨hy.mono e, hr0, okpe, okr i hik, hn, hn2, hzz⟩, hg, hL, fun hc => absurd hc hne, fun _ => ?_⟩
      exact fun d t ws H2 hd e2 hd2 ht hws => hcf d t ws H2 (fresh_back e hd) (e.trans e2) hd2 ht hws
  · rintro σ H' ⟨hik, e, r, m1, rfl, hr0⟩
    rcases hend with ⟨h1, hQ⟩ | ⟨h1, _⟩
    · have ek : rest.length = k := by omega
      rw [ek] at hr0
      exact ⟨_, rfl, hQ r H' e hr0⟩
    · omega
theorem ok_merged {w : World} {K : Fg} {mg : Str → Option Value} {base : Heap} (T : Top K mg) (D_check_rule : Df PR w K mg base 2 "check_rule" [] (spRule K)) (D_moved : Df PR w K mg base 10 "moved" ["by"] (spMoved K)) (D_Layer_add : MtS PR w K mg base 8 (He.ga K "Layer") "__add__" (spAdd K)) :
    FnA PR w K mg base 12 (He.ga K "merged") ["by"] (fun vs H Q E => ∃ a rest z, vs = a :: rest ++ [z] ∧ rest.length ≤ 7 ∧ ∀ p, H p = none → spMergedI K [a, z, .ref p] (upd H p (.tup rest)) Q E) := by
  obtain ⟨_, fd, F⟩ := T.f_merged
  exact fna_star1 (nmax := 7) F sc_merged (fun _ _ _ _ _ _ a rest z hl => match rest, hl with | [], _ => rfl | [_], _ => rfl | [_, _], _ => rfl | [_, _, _], _ => rfl | [_, _, _, _], _ => rfl | [_, _, _, _, _], _ => rfl | [_, _, _, _, _, _], _ => rfl | [_, _, _, _, _, _, _], _ => rfl | _ :: _ :: _ :: _ :: _ :: _ :: _ :: _ :: _, hl => absurd hl (by simp)) (by rw [sizeLine_eq]; decide) (walk_merged T D_check_rule D_moved D_Layer_add)

end Kx

end

section
set_option Elab.async false
set_option linter.all false
set_option maxRecDepth 100000
set_option maxHeartbeats 4000000
namespace Kx
open PySem PySem.Spec PyProof.Rows L2 Evl Pl
/-- all but one address stays -/
def ExX (x : Addr) (H H' : Hp) : Prop := ∀ b o, b ≠ x → H b = some o → H' b = some o
theorem ExX.ex {x : Addr} {H H1 H2 : Hp} (a : ExX x H H1) (e : Ex H1 H2) : ExX x H H2 := fun b o n h => e b o (a b o n h)
theorem ExX.set {x : Addr} {H H1 : Hp} {o : HO} (a : ExX x H H1) : ExX x H (upd H1 x o) := fun b u n h => by
  rw [upd_ne n]
  exact a b u n h
theorem ExX.refl {x : Addr} {H : Hp} : ExX x H H := fun _ _ _ h => h
/-! ### the law's draws -/
theorem sql_ne {K : Fg} {H : Hp} {a b : Addr} {o : HO} {xs : List V} (n : a ≠ b) (h : SqL K H a xs) : SqL K (upd H b o) a xs := by
  rcases h with (h | ⟨u, h⟩) | h
  · exact .inl (.inl (by rw [upd_ne n]; exact h))
  · exact .inl (.inr ⟨u, by rw [upd_ne n]; exact h⟩)
  · exact .inr h
theorem ExX.l {K : Fg} {H H' : Hp} {a b : Addr} {xs : List V} (n : a ≠ b) (e : ExX b H H') (h : SqL K H a xs) : SqL K H' a xs := by
  rcases h with (h | ⟨u, h⟩) | h
  · exact .inl (.inl (e _ _ n h))
  · exact .inl (.inr ⟨u, e _ _ n h⟩)
  · exact .inr h
theorem ExX.trans {x : Addr} {H H1 H2 : Hp} (a : ExX x H H1) (b : ExX x H1 H2) : ExX x H H2 := fun c o n h => b c o n (a c o n h)
theorem ExX.la {K : Fg} {H H' : Hp} {a b : Addr} {xs : List V} (n : a ≠ b ∨ ∀ H, SqL K H a xs) (e : ExX b H H') (h : SqL K H a xs) : SqL K H' a xs := by
  rcases n with n | n
  · exact e.l n h
  · exact n H'
/-- script and box -/
structure Box (K : Fg) (H : Hp) (a b : Addr) (ns : List Int) : Prop where
  ne : a ≠ b ∨ ∀ H, SqL K H a (vis ns)
  scr : SqL K H a (vis ns)
  len : ns.length ≤ 63
  box : ∃ l t : Int, H b = some (.lst [.int l, .int t]) ∧ 0 ≤ l ∧ 0 ≤ t
def spTake (K : Fg) : Sp := fun vs H Q _ => ∃ (a b : Addr) (ns : List Int) (lim : Int), vs = [.ref a, .ref b, .int lim] ∧ Box K H a b ns ∧ 1 ≤ lim ∧ lim.natAbs < 2 ^ 200 ∧ ∀ v H', 0 ≤ v → v < lim → ExX b H H' → Box K H' a b ns → Q (.int v) H'
theorem pow18 : ((10 : Int) ^ (18 : Int).toNat) = 1000000000000000000 := by decide
theorem ok__law_take {w : World} {K : Fg} {mg : Str → Option Value} {base : Heap} (T : Top K mg)  : FnA PR w K mg base 1 (He.ga K "_law_take") [] ((spTake K)) := by
  obtain ⟨_, fd, F⟩ := T.f__law_take
  refine fna_d0 F sc__law_take (fun vs H Q E h => ?_) (fun _ _ _ _ _ _ us hl => match us, hl with | [_, _, _], _ => rfl) (fun cdv A outer s H vs Q E hr h => ?_)
  · obtain ⟨a, b, ns, lim, rfl, ⟨hne, hS, hl63, l, t, hb, h0, h1⟩, hlim, hlim2, hQ⟩ := h; rfl
  obtain ⟨a, b, ns, lim, rfl, ⟨hne, hS, hl63, l, t, hb, h0, h1⟩, hlim, hlim2, hQ⟩ := h
  refine ⟨_, (pss_cut (ps_if (PW.pt (pw_and (pt_cmpR op_eq (pe_ix ix_list (pv 1) pe_int (fun _ _ => rfl)) pe_int (nomark _)) (pw_and1 (pt_cmpR op_lt (pe_ix ix_list (pv 1) pe_int (fun _ _ => rfl)) (pe_callB call_len_seq (by rfl) T.b_len (by decide +kernel) (pa_cons (pv 0) pa_nil)) (nomark _))))) (pss_cons (ps_set (i := 3) sc__law_take.nd rfl (Or.inl rfl) (pe_callTy call_int1 (by rfl) T.b_int (by decide +kernel) (pa_cons (pe_ix ix_list (pv 0) (pe_ix ix_list (pv 1) pe_int (fun _ _ => rfl)) (fun _ _ => rfl)) pa_nil)))
    (pss_cons (ps_set (i := 4) sc__law_take.nd rfl (Or.inl rfl) (pe_callB call_abs (by rfl) T.b_abs (by decide +kernel) (pa_cons (pv 3) pa_nil)))
    (pss_cut (ps_if (pt_cmpR op_lt (pv 4) (pe_op op_pow pe_int pe_int) (nomark _)) (pss_cons (ps_set (i := 4) sc__law_take.nd rfl (Or.inl rfl) (pe_op op_mod (pe_callTy call_int1 (by rfl) T.b_int (by decide +kernel) (pa_cons (pe_op op_mulW (pe_op op_add (pe_op op_add (pe_op op_mulW pe_int (pv 4)) (pe_callTy call_int1 (by rfl) T.b_int (by decide +kernel) (pa_cons (pe_cmpR op_lt (pv 3) pe_int (nomark _)) pa_nil))) pe_int) (pe_op op_add pe_int (pe_op op_mulW pe_int (pe_ix ix_list (pv 1) pe_int (fun _ _ => rfl))))) pa_nil)) pe_int))
    (pss_one (ps_set (i := 4) sc__law_take.nd rfl (Or.inl rfl) (pe_op op_mod (pe_callTy call_int1 (by rfl) T.b_int (by decide +kernel) (pa_cons (pe_op op_mulW (pv 4) (pv 4)) pa_nil)) pe_int)))) pss_nil)
    (pss_cons (ps_asg (pv 4) (pg_sub (pv 1) pe_int set_list))
    (pss_one (ps_asg (pe_op op_add (pe_ix ix_list (pv 1) pe_int (fun _ _ => rfl)) pe_int) (pg_sub (pv 1) pe_int set_list))))))) pss_nil)
    (pss_cons (ps_set (i := 5) sc__law_take.nd rfl (Or.inl rfl) (pe_op op_mod (pe_callTy call_int1 (by rfl) T.b_int (by decide +kernel) (pa_cons (pe_ix ix_list (pv 1) pe_int (fun _ _ => rfl)) pa_nil)) (pv 2)))
    (pss_cons (ps_asg (pe_op op_fdivW (pe_ix ix_list (pv 1) pe_int (fun _ _ => rfl)) (pv 2)) (pg_sub (pv 1) pe_int set_list))
    (pss_one (ps_ret (pv 5)))))), ?_⟩
  refine ⟨fun σ' H' => ∃ l1 t1 m1 m2, σ' = [some (.ref a), some (.ref b), some (.int lim), m1, m2, none] ∧ H' b = some (.lst [.int l1, .int t1]) ∧ ExX b H H' ∧ 0 ≤ l1 ∧ 0 ≤ t1, ?_, ?_⟩
  · refine ⟨_, rfl, _, _, _, _, rfl, rfl, sq_of hb, atI0 rfl, rfl, _, rfl, ?_⟩
    have fin : ∃ l1 t1 m1 m2, ([some (.ref a), some (.ref b), some (.int lim), none, none, none] : L2.St) = [some (.ref a), some (.ref b), some (.int lim), m1, m2, none] ∧ H b = some (.lst [.int l1, .int t1]) ∧ ExX b H H ∧ 0 ≤ l1 ∧ 0 ≤ t1 := ⟨l, t, none, none, rfl, hb, ExX.refl, h0, h1⟩
    refine ite2 (fun _ => ?_) fun _ => iteF fin
    refine ⟨_, rfl, _, _, _, _, rfl, rfl, sq_of hb, atI1 rfl, _, rfl, _, _, rfl, .inl hS, _, _, rfl, rfl, _, rfl, ?_⟩
    refine ite2 (fun h => ?_) fun _ => fin
    have ht : t.toNat < ns.length := by
      have := of_decide_eq_true h
      rw [vis_len] at this
      omega
    have hx : ns[t.toNat]? = some ns[t.toNat] := List.getElem?_eq_getElem ht
    refine ⟨_, rfl, _, rfl, _, _, _, _, rfl, rfl, sq_of hb, atI1 rfl, _, _, _, _, rfl, rfl, hS, atI_int h1 (vis_get hx), .inl ⟨_, rfl, ?_⟩⟩
    generalize ns[t.toNat] = c
    refine ⟨_, rfl, _, rfl, ?_⟩
    have hc0 : 0 ≤ (if c < 0 then -c else c) := by split <;> omega
    generalize (if c < 0 then -c else c) = z at hc0
    refine ⟨fun σ' H' => H' = H ∧ ∃ z', σ' = [some (.ref a), some (.ref b), some (.int lim), some (.int c), some (.int z'), none] ∧ 0 ≤ z', ?_, ?_⟩
    · refine ⟨_, rfl, _, _, rfl, rfl, ⟨by decide, by decide, by decide⟩, _, _, rfl, rfl, _, rfl, ?_⟩
      refine ite2 (fun h => ?_) fun _ => ⟨rfl, z, rfl, hc0⟩
      have hz : z < 1000000000000000000 := by
        have := of_decide_eq_true h
        rw [pow18] at this
        exact this
      refine ⟨_, rfl, _, _, rfl, rfl, wide_mul (a := 2) (b := 70) (by decide) (by show z.natAbs < 1180591620717411303424; omega) (by decide) (by decide) (by decide), ?_⟩
      refine ⟨_, rfl, _, _, rfl, rfl, .inr ⟨_, rfl, _, _, rfl, rfl, _, _, rfl, rfl, ?_⟩⟩
      have hbb : (if decide (c < 0) = true then (1 : Int) else 0) = b2 (decide (c < 0)) := rfl
      rw [hbb]
      have hb2 : 0 ≤ b2 (decide (c < 0)) ∧ b2 (decide (c < 0)) ≤ 1 := by unfold b2; split <;> omega
      generalize b2 (decide (c < 0)) = q at hb2
      refine ⟨_, rfl, _, _, _, _, rfl, rfl, sq_of hb, atI1 rfl, _, _, rfl, rfl, wide_mul (a := 2) (b := 70) (by decide) (by show t.natAbs < 1180591620717411303424; omega) (by decide) (by decide) (by decide), _, _, rfl, rfl, _, _, rfl, rfl, ?_, ?_⟩
      · exact wide_mul (a := 80) (b := 80) (by show (2 * z + q + 1).natAbs < 1208925819614629174706176; omega) (by show (1000000007 + 2 * t).natAbs < 1208925819614629174706176; omega) (by decide) (by decide) (by decide)
      refine .inl ⟨_, rfl, _, _, rfl, rfl, (by show (0 : Int) < 2147483647; decide), ?_⟩
      have hu : ((2 * z + q + 1) * (1000000007 + 2 * t) % 2147483647).natAbs < 2 ^ 40 := by
        show ((2 * z + q + 1) * (1000000007 + 2 * t) % 2147483647).natAbs < 1099511627776
        omega
      refine ⟨_, rfl, _, rfl, _, _, rfl, rfl, wide_mul (a := 40) (b := 40) hu hu (by decide) (by decide) (by decide), .inl ⟨_, rfl, _, _, rfl, rfl, (by show (0 : Int) < 998244353; decide), ?_⟩⟩
      exact ⟨rfl, _, rfl, Int.emod_nonneg _ (by decide)⟩
    · rintro σ' H' ⟨rfl, z', rfl, hz'⟩
      refine ⟨_, rfl, _, rfl, b, _, 0, 0, rfl, rfl, hb, rfl, ?_⟩
      refine ⟨_, rfl, _, _, _, _, rfl, rfl, sq_of upd_same, atI1 rfl, _, _, rfl, rfl, _, rfl, b, _, 1, 1, rfl, rfl, upd_same, rfl, ?_⟩
      exact ⟨_, _, _, _, rfl, upd_same, (ExX.refl.set).set, hz', by omega⟩
  · rintro σ' H' ⟨l1, t1, m1, m2, rfl, hb', e, g0, g1⟩
    refine ⟨_, rfl, _, _, _, _, rfl, rfl, sq_of hb', atI0 rfl, .inl ⟨_, rfl, _, rfl, _, _, rfl, rfl, (by show 0 < lim; omega), ?_⟩⟩
    refine ⟨_, rfl, _, _, _, _, rfl, rfl, sq_of hb', atI0 rfl, _, rfl, _, _, rfl, rfl, wide_div (by omega) hlim2 (by decide) (by decide), _, rfl, b, _, 0, 0, rfl, rfl, hb', rfl, ?_⟩
    refine ⟨_, rfl, hQ _ _ (Int.emod_nonneg _ (by omega)) (Int.emod_lt_of_pos _ (by omega)) e.set ⟨hne, ExX.la hne e.set hS, hl63, _, _, upd_same, Int.ediv_nonneg g0 (by omega), g1⟩⟩
def spNum (K : Fg) : Sp := fun vs H Q _ => ∃ (a b : Addr) (ns : List Int), vs = [.ref a, .ref b] ∧ Box K H a b ns ∧ ∀ (v : Int) H', ExX b H H' → Box K H' a b ns → Q (.int v) H'
theorem Box.ex {K : Fg} {H H' : Hp} {a b : Addr} {ns : List Int} (h : Box K H a b ns) (e : Ex H H') : Box K H' a b ns := by
  obtain ⟨h1, h2, h3, l, t, hb, h4, h5⟩ := h
  exact ⟨h1, ex_l e h2, h3, l, t, e _ _ hb, h4, h5⟩
theorem pow40 : ((10 : Int) ^ (40 : Int).toNat) = 10000000000000000000000000000000000000000 := by decide
theorem list_at {xs : List V} {v : Int} (h0 : 0 ≤ v) (h : v < xs.length) : ∃ y, xs[v.toNat]? = some y ∧ y ∈ xs := ⟨xs[v.toNat]'(by omega), List.getElem?_eq_getElem (by omega), List.getElem_mem _⟩
theorem ok__law_number {w : World} {K : Fg} {mg : Str → Option Value} {base : Heap} (T : Top K mg) (D__law_take : Df PR w K mg base 1 "_law_take" [] (spTake K)) : FnA PR w K mg base 2 (He.ga K "_law_number") [] ((spNum K)) := by
  obtain ⟨_, fd, F⟩ := T.f__law_number
  refine fna_d0 F sc__law_number (fun vs H Q E h => ?_) (fun _ _ _ _ _ _ us hl => match us, hl with | [_, _], _ => rfl) (fun cdv A outer s H vs Q E hr h => ?_)
  · obtain ⟨a, b, ns, rfl, hB, hQ⟩ := h; rfl
  obtain ⟨a, b, ns, rfl, hB, hQ⟩ := h
  refine ⟨_, (pss_cons (ps_set (i := 2) sc__law_number.nd rfl (Or.inl rfl) (pe_df D__law_take (hr.mono (by decide)) (by rfl) passLA (pa_cons (pv 0) (pa_cons (pv 1) (pa_cons pe_int pa_nil)))))
    (pss_cons (ps_if (pt_cmpR op_lt (pv 2) pe_int (nomark _)) (pss_one (ps_ret (pe_ix ix_list (pe_lst (pa_cons pe_int (pa_cons pe_int (pa_cons pe_int (pa_cons (pe_un un_neg pe_int) pa_nil))))) (pv 2) (fun _ _ => rfl)))) pss_nil)
    (pss_cons (ps_set (i := 3) sc__law_number.nd rfl (Or.inl rfl) (pe_df D__law_take (hr.mono (by decide)) (by rfl) passLA (pa_cons (pv 0) (pa_cons (pv 1) (pa_cons (pe_op op_pow pe_int pe_int) pa_nil)))))
    (pss_cons (ps_if (pt_cmpR op_eq (pv 2) pe_int (nomark _)) (pss_one (ps_ret (pv 3))) pss_nil)
    (pss_one (ps_ret (pe_op op_sub (pe_un un_neg pe_int) (pv 3)))))))), ?_⟩
  refine ⟨_, rfl, _, rfl, a, b, ns, 6, rfl, hB, by decide, by decide, fun v H1 v0 v1 e1 hB1 => ?_⟩
  refine ⟨_, rfl, _, _, rfl, rfl, _, rfl, ?_⟩
  refine ite2 (fun h => ?_) fun h => ?_
  · have hv : v < 4 := of_decide_eq_true h
    refine ⟨1, rfl, sz4, fun p hp => ?_⟩
    refine ⟨_, rfl, ?_⟩
    obtain ⟨y, hy, hm⟩ := list_at (xs := [.int 0, .int 1, .int 2, .int (-1)]) v0 (by show v < 4; exact hv)
    refine ⟨_, _, _, _, rfl, rfl, sq_of upd_same, atI_int v0 hy, ?_⟩
    have hi : ∃ i : Int, y = .int i := by
      simp only [List.mem_cons, List.not_mem_nil, or_false] at hm
      rcases hm with h | h | h | h <;> exact ⟨_, h⟩
    obtain ⟨i, rfl⟩ := hi
    exact hQ _ _ (e1.ex (Ex.new hp)) (hB1.ex (Ex.new hp))
  · refine ⟨_, rfl, _, rfl, _, _, rfl, rfl, ⟨by decide, by decide, by decide⟩, a, b, ns, _, rfl, hB1, ?_, ?_, fun u H2 u0 u1 e2 hB2 => ?_⟩
    · show (1 : Int) ≤ 10 ^ (40 : Int).toNat
      rw [pow40]
      decide
    · show ((10 : Int) ^ (40 : Int).toNat).natAbs < 2 ^ 200
      rw [pow40]
      decide
    refine ⟨_, rfl, rfl, _, rfl, ?_⟩
    refine ite2 (fun _ => ⟨_, rfl, hQ _ _ (e1.trans e2) hB2⟩) fun _ => ?_
    exact ⟨1, rfl, _, rfl, _, _, rfl, rfl, hQ _ _ (e1.trans e2) hB2⟩
def spWidth (K : Fg) : Sp := fun vs H Q _ => ∃ (a b : Addr) (ns : List Int), vs = [.ref a, .ref b] ∧ Box K H a b ns ∧ ∀ (n : Nat) H', 1 ≤ n → n ≤ 8 → ExX b H H' → Box K H' a b ns → Q (.int (n : Int)) H'
theorem ok__law_width {w : World} {K : Fg} {mg : Str → Option Value} {base : Heap} (T : Top K mg) (D__law_take : Df PR w K mg base 1 "_law_take" [] (spTake K)) : FnA PR w K mg base 2 (He.ga K "_law_width") [] ((spWidth K)) := by
  obtain ⟨_, fd, F⟩ := T.f__law_width
  refine fna_d0 F sc__law_width (fun vs H Q E h => ?_) (fun _ _ _ _ _ _ us hl => match us, hl with | [_, _], _ => rfl) (fun cdv A outer s H vs Q E hr h => ?_)
  · obtain ⟨a, b, ns, rfl, hB, hQ⟩ := h; rfl
  obtain ⟨a, b, ns, rfl, hB, hQ⟩ := h
  refine ⟨_, (pss_cons (ps_set (i := 2) sc__law_width.nd rfl (Or.inl rfl) (pe_ix ix_list (pe_lst (pa_cons pe_int (pa_cons pe_int (pa_cons pe_int (pa_cons pe_int (pa_cons pe_int (pa_cons pe_int (pa_cons pe_int (pa_cons pe_int pa_nil))))))))) (pe_df D__law_take (hr.mono (by decide)) (by rfl) passLA (pa_cons (pv 0) (pa_cons (pv 1) (pa_cons pe_int pa_nil)))) (fun _ _ => rfl)))
    (pss_cut (ps_if (pt_cmpR op_eq (pv 2) pe_int (nomark _)) (pss_one (ps_set (i := 2) sc__law_width.nd rfl (Or.inl rfl) (pe_op op_add pe_int (pe_df D__law_take (hr.mono (by decide)) (by rfl) passLA (pa_cons (pv 0) (pa_cons (pv 1) (pa_cons pe_int pa_nil))))))) pss_nil)
    (pss_one (ps_ret (pv 2))))), ?_⟩
  refine ⟨by show 8 ≤ sizeLine; rw [sizeLine_eq]; decide, fun p hp => ?_⟩
  refine ⟨_, rfl, _, rfl, a, b, ns, 8, rfl, hB.ex (Ex.new hp), by decide, by decide, fun v H1 v0 v1 e1 hB1 => ?_⟩
  have hne : p ≠ b := fun z => by
    obtain ⟨_, _, _, l, t, hb, _⟩ := hB
    rw [← z, hp] at hb
    cases hb
  obtain ⟨y, hy, hm⟩ := list_at (xs := [.int 2, .int 3, .int 1, .int 4, .int 2, .int 3, .int 5, .int 8]) v0 (by show v < 8; exact v1)
  refine ⟨_, _, _, _, rfl, rfl, sq_of (e1 _ _ hne upd_same), atI_int v0 hy, ?_⟩
  have hi : ∃ i : Int, y = .int i ∧ 1 ≤ i ∧ i ≤ 8 := by
    simp only [List.mem_cons, List.not_mem_nil, or_false] at hm
    rcases hm with h | h | h | h | h | h | h | h <;> exact ⟨_, h, by decide, by decide⟩
  obtain ⟨i, rfl, i0, i1⟩ := hi
  have e1' : ExX b H H1 := (ExX.refl.ex (Ex.new hp)).trans e1
  refine ⟨fun σ' H' => ∃ n : Nat, σ' = [some (.ref a), some (.ref b), some (.int (n : Int))] ∧ 1 ≤ n ∧ n ≤ 8 ∧ ExX b H H' ∧ Box K H' a b ns, ?_, ?_⟩
  · refine ⟨_, rfl, rfl, _, rfl, ?_⟩
    refine ite2 (fun _ => ?_) fun _ => ⟨i.toNat, by rw [Int.toNat_of_nonneg (by omega)]; rfl, by omega, by omega, e1', hB1⟩
    refine ⟨_, rfl, _, rfl, a, b, ns, 4, rfl, hB1, by decide, by decide, fun u H2 u0 u1 e2 hB2 => ?_⟩
    refine ⟨_, _, rfl, rfl, (5 + u).toNat, ?_, by omega, by omega, e1'.trans e2, hB2⟩
    rw [Int.toNat_of_nonneg (by omega)]
    rfl
  · rintro σ' H' ⟨n, rfl, n0, n1, e, hB'⟩
    exact ⟨_, rfl, hQ n H' n0 n1 e hB'⟩
theorem box_ap {K : Fg} {H : Hp} {a b D : Addr} {ns : List Int} (h : Box K H a b ns) (hD : H D = none) : a ≠ D ∨ ∀ H, SqL K H a (vis ns) := by
  obtain ⟨ne, hs, hl, l, t, hb, h0, h1⟩ := h
  rcases hs with (h | ⟨u, h⟩) | h
  · exact .inl (ne_of_none h hD)
  · exact .inl (ne_of_none h hD)
  · exact .inr fun H => .inr h
theorem box_nb {K : Fg} {H : Hp} {a b D : Addr} {ns : List Int} (h : Box K H a b ns) (hD : H D = none) : b ≠ D := by
  obtain ⟨ne, hs, hl, l, t, hb, h0, h1⟩ := h
  exact ne_of_none hb hD
theorem Box.exx {K : Fg} {H H' : Hp} {a b x : Addr} {ns : List Int} (h : Box K H a b ns) (na : a ≠ x ∨ ∀ H, SqL K H a (vis ns)) (nb : b ≠ x) (e : ExX x H H') : Box K H' a b ns := by
  obtain ⟨ne, hs, hl, l, t, hb, h0, h1⟩ := h
  exact ⟨ne, ExX.la na e hs, hl, l, t, e _ _ nb hb, h0, h1⟩
theorem Box.exn {K : Fg} {H H' : Hp} {a b : Addr} {ns : List Int} (h : Box K H a b ns) (e : ExX b H H') : ExN H H' := by
  obtain ⟨ne, hs, hl, l, t, hb, h0, h1⟩ := h
  intro c o hc n
  refine e c o (fun z => ?_) hc
  rw [z, hb] at hc
  rw [← Option.some.inj hc] at n
  rcases n with ⟨_, h⟩ | ⟨_, _, h⟩ <;> cases h
/-- a list of one's own is written, besides the box -/
theorem exX_mut {H H1 : Hp} {b D : Addr} {o : HO} (e : ExX b H H1) (hD : H D = none) : ExX b H (upd H1 D o) := fun c u n hc => by
  rw [upd_ne (ne_of_none hc hD)]
  exact e c u n hc
theorem exX_back {H H1 : Hp} {b x : Addr} (e : ExX b H H1) (nb : x ≠ b) (h : H1 x = none) : H x = none := by
  cases q : H x with
  | none => rfl
  | some o => rw [e x o nb q] at h; cases h

end Kx

end

section
set_option Elab.async false
set_option linter.all false
set_option maxRecDepth 100000
set_option maxHeartbeats 4000000
namespace Kx
open PySem PySem.Spec PyProof.Rows L2 Evl Pl
/-! ### the law's small defs -/
theorem tyL {K : Fg} {H : Hp} {a : Addr} {xs : List V} (h : H a = some (.lst xs)) : TyX K H (.ref a) (.type "list") := .base (.lst h)
theorem kit_ll {K : Fg} : PySem.W.kitOne K (.type "list") (.type "list") = some true := kit_ty (by decide +kernel)
theorem ok__law_is_int {w : World} {K : Fg} {mg : Str → Option Value} {base : Heap} (T : Top K mg)  : FnA PR w K mg base 1 (He.ga K "_law_is_int") [] (spIsInt) := by
  obtain ⟨_, fd, F⟩ := T.f__law_is_int
  refine fna_d0 F sc__law_is_int (fun vs H Q E h => ?_) (fun _ _ _ _ _ _ us hl => match us, hl with | [_], _ => rfl) (fun cdv A outer s H vs Q E hr h => ?_)
  · obtain ⟨n, rfl, hQ⟩ := h; rfl
  obtain ⟨n, rfl, hQ⟩ := h
  refine ⟨_, (pss_one (ps_ret (pe_and (pe_callB call_isi (by rfl) T.b_isinstance (by decide +kernel) (pa_cons (pv 0) (pa_cons (pe_bltn (v := .ty "int") (u := .type "int") (by rfl) T.b_int (by decide +kernel) rfl) pa_nil))) (pe_one (pe_not (pe_callB call_isi (by rfl) T.b_isinstance (by decide +kernel) (pa_cons (pv 0) (pa_cons (pe_bltn (v := .ty "bool") (u := .type "bool") (by rfl) T.b_bool (by decide +kernel) rfl) pa_nil)))))))), ?_⟩
  refine ⟨_, rfl, _, _, _, _, _, rfl, .ty _, tyI, kit_ii, true, rfl, ?_⟩
  refine ⟨_, rfl, _, _, _, _, _, rfl, .ty _, tyI, kit_ib, false, rfl, hQ⟩
def spLRow (K : Fg) : Sp := fun vs H Q _ => ∃ (a b : Addr) (r : Rwv), vs = [.ref a, .ref b] ∧ SqT K H a (vis r) ∧ SqT K H b (vis r) ∧ r.length ≤ 1000 ∧ ∀ H', Ex H H' → Q (.bl true) H'
theorem ok__law_is_row {w : World} {K : Fg} {mg : Str → Option Value} {base : Heap} (T : Top K mg) (D__law_is_int : Df PR w K mg base 1 "_law_is_int" [] spIsInt) : FnA PR w K mg base 2 (He.ga K "_law_is_row") [] ((spLRow K)) := by
  obtain ⟨_, fd, F⟩ := T.f__law_is_row
  refine fna_d0 F sc__law_is_row (fun vs H Q E h => ?_) (fun _ _ _ _ _ _ us hl => match us, hl with | [_, _], _ => rfl) (fun cdv A outer s H vs Q E hr h => ?_)
  · obtain ⟨a, b, r, rfl, hS, hb, hz, hQ⟩ := h; rfl
  obtain ⟨a, b, r, rfl, hS, hb, hz, hQ⟩ := h
  refine ⟨_, (pss_cons (ps_if (PW.pt (pw_or (pt_not (pt_val (pe_callB call_isi (by rfl) T.b_isinstance (by decide +kernel) (pa_cons (pv 0) (pa_cons (pe_bltn (v := .ty "tuple") (u := .type "tuple") (by rfl) T.b_tuple (by decide +kernel) rfl) pa_nil))))) (pw_or1 (pt_cmpR op_ne (pe_callB call_len_seq (by rfl) T.b_len (by decide +kernel) (pa_cons (pv 0) pa_nil)) (pe_callB call_len_seq (by rfl) T.b_len (by decide +kernel) (pa_cons (pv 1) pa_nil)) (nomark _))))) (pss_one (ps_ret pe_bl)) pss_nil)
    (pss_one (ps_ret (pe_and (pe_callB (cr_all rfl) (by rfl) T.b_all (by decide +kernel) (pa_cons (pe_lc (own := [("number", 2)]) (g := gName 2) (tt := tYes) rfl sc__law_is_row.nd (pi_tup (pv 0)) (blkOk_by (own := [("number", 2)]) (N := ["value", "row", "number"]) (sc := defScope s__law_is_row) (by decide +kernel)) (fun _ _ _ _ _ => (pg_name (i := 2) sc__law_is_row.nd rfl (Or.inl rfl))) (fun _ _ _ _ _ => pts_nil) (fun _ _ _ _ _ => (pe_df D__law_is_int (hr.mono (by decide)) (by rfl) passLA (pa_cons (pv 2) pa_nil)))) pa_nil)) (pe_one (pe_cmpR (op_eqD hr.units) (pv 0) (pv 1) (nomark _))))))), ?_⟩
  refine ⟨_, rfl, _, _, _, _, _, rfl, .ty _, tyT hS, kit_tt, true, rfl, ?_⟩
  refine iteF ⟨_, rfl, _, _, rfl, .inr hS, _, rfl, _, _, rfl, .inr hb, rfl, _, rfl, ?_⟩
  refine iteNS rfl ?_
  refine ⟨_, rfl, a, rfl, ⟨_, hS⟩, fun D hD => ?_⟩
  refine lc_mapNT (ys := (List.replicate r.length true).map V.bl) hS (by rw [vis_len]; exact szK (by omega)) hD (by simp) (fun _ => rfl) (fun i x y H2 Q' hx hy e k => ?_) fun H2 e hy => ?_
  · rw [List.getElem?_map] at hx hy
    obtain ⟨z, hz1, ez⟩ := Option.map_eq_some_iff.mp hx
    obtain ⟨u, hu1, eu⟩ := Option.map_eq_some_iff.mp hy
    have e2 : u = true := by
      have := List.mem_of_getElem? hu1
      rw [List.mem_replicate] at this
      exact this.2
    subst ez eu e2
    exact ⟨_, rfl, z, rfl, k H2 (Ex.refl _)⟩
  · refine ⟨_, List.replicate r.length true, rfl, sq_of hy, ?_⟩
    have e1 : (List.replicate r.length true).all id = true := by simp
    rw [e1]
    refine ⟨true, rfl, _, rfl, _, rfl, ?_⟩
    refine rEq_rows (a := some r) (b := some r) ⟨_, rfl, ex_t e hS⟩ ⟨_, rfl, ex_t e hb⟩ ?_
    rw [decide_eq_true rfl]
    exact hQ H2 e
def spLEnt (K : Fg) : Sp := fun vs H Q _ => ∃ (u v : V) (e : Ent) (n : Nat), vs = [u, v] ∧ VE K H u e ∧ VE K H v e ∧ EntOk n e ∧ n ≤ 1000 ∧ ∀ H', Ex H H' → Q (.bl true) H'
theorem ok__law_is_entry {w : World} {K : Fg} {mg : Str → Option Value} {base : Heap} (T : Top K mg) (D__law_is_int : Df PR w K mg base 1 "_law_is_int" [] spIsInt) (D__law_is_row : Df PR w K mg base 2 "_law_is_row" [] (spLRow K)) : FnA PR w K mg base 3 (He.ga K "_law_is_entry") [] ((spLEnt K)) := by
  obtain ⟨_, fd, F⟩ := T.f__law_is_entry
  refine fna_d0 F sc__law_is_entry (fun vs H Q E h => ?_) (fun _ _ _ _ _ _ us hl => match us, hl with | [_, _], _ => rfl) (fun cdv A outer s H vs Q E hr h => ?_)
  · obtain ⟨u, v, e, n, rfl, ⟨a, x, y, rfl, hS, hx, hy⟩, ⟨b, x', y', rfl, hb, hx', hy'⟩, ok, hn, hQ⟩ := h; rfl
  obtain ⟨u, v, e, n, rfl, ⟨a, x, y, rfl, hS, hx, hy⟩, ⟨b, x', y', rfl, hb, hx', hy'⟩, ok, hn, hQ⟩ := h
  refine ⟨_, (pss_cons (ps_if (PW.pt (pw_or (pt_not (pt_val (pe_callB call_isi (by rfl) T.b_isinstance (by decide +kernel) (pa_cons (pv 0) (pa_cons (pe_bltn (v := .ty "tuple") (u := .type "tuple") (by rfl) T.b_tuple (by decide +kernel) rfl) pa_nil))))) (pw_or (pt_cmpR op_ne (pe_callB call_len_seq (by rfl) T.b_len (by decide +kernel) (pa_cons (pv 0) pa_nil)) pe_int (nomark _)) (pw_or (pt_not (pt_val (pe_df D__law_is_int (hr.mono (by decide)) (by rfl) passLA (pa_cons (pe_ix ix_tup (pv 0) pe_int (fun _ _ => rfl)) pa_nil)))) (pw_or1 (pt_cmpR op_ne (pe_ix ix_tup (pv 0) pe_int (fun _ _ => rfl)) (pe_ix ix_tup (pv 1) pe_int (fun _ _ => rfl)) (nomark _))))))) (pss_one (ps_ret pe_bl)) pss_nil)
    (pss_cons (ps_for poOf rfl (pi_range2 rfl T.b_range (pa_cons pe_int (pa_cons pe_int pa_nil))) (pg_name (i := 2) sc__law_is_entry.nd rfl (Or.inl rfl)) (pss_one (ps_if (pt_cmpR op_isN (pe_ix ix_tup (pv 1) (pv 2) (fun _ _ => rfl)) pe_non (nomark _)) (pss_one (ps_if (pt_cmpR op_notN (pe_ix ix_tup (pv 0) (pv 2) (fun _ _ => rfl)) pe_non (nomark _)) (pss_one (ps_ret pe_bl)) pss_nil)) (pss_one (ps_if (pt_not (pt_val (pe_df D__law_is_row (hr.mono (by decide)) (by rfl) passLA (pa_cons (pe_ix ix_tup (pv 0) (pv 2) (fun _ _ => rfl)) (pa_cons (pe_ix ix_tup (pv 1) (pv 2) (fun _ _ => rfl)) pa_nil))))) (pss_one (ps_ret pe_bl)) pss_nil)))))
    (pss_one (ps_ret pe_bl)))), ?_⟩
  refine ⟨_, rfl, _, _, _, _, _, rfl, .ty _, tyT hS, kit_tt, true, rfl, ?_⟩
  refine iteF ⟨_, rfl, _, _, rfl, .inr hS, rfl, _, rfl, ?_⟩
  refine iteNS rfl ?_
  refine ⟨_, rfl, _, _, _, _, rfl, rfl, hS, atI0 rfl, e.p, rfl, true, rfl, ?_⟩
  refine iteF ⟨_, rfl, _, _, _, _, rfl, rfl, hS, atI0 rfl, _, rfl, _, _, _, _, rfl, rfl, hb, atI0 rfl, rfl, _, rfl, ?_⟩
  refine ifF (by rw [decide_eq_true rfl]; rfl) ?_
  refine ⟨_, _, rfl, ⟨by decide, by decide, by decide, by decide⟩, ?_⟩
  refine for_range (lo := 1) (n := 2) (fun i σ H' => Ex H H' ∧ ∃ m, σ = [some (.ref a), some (.ref b), m]) ⟨Ex.refl _, _, rfl⟩ ?_ ?_
  · rintro i σ H' hi ⟨e1, m, rfl⟩
    have hrow : ∃ (r : Option Rwv) (z z' : V), atI [.int e.p, x, y] (1 + (i : Nat)) = some z ∧ atI [.int e.p, x', y'] (1 + (i : Nat)) = some z' ∧ VO K H' z r ∧ VO K H' z' r ∧ ORowOk n r := by
      have n1 := ExN.of e1
      match i, hi with
      | 0, _ => exact ⟨e.o, x, x', atI1 rfl, atI1 rfl, hx.ex n1, hx'.ex n1, ok.o⟩
      | 1, _ => exact ⟨e.n, y, y', atI2 rfl, atI2 rfl, hy.ex n1, hy'.ex n1, ok.n⟩
    obtain ⟨r, z, z', hz, hz', hr, hr', okr⟩ := hrow
    have hS' := ex_t e1 hS
    have hb' := ex_t e1 hb
    refine ⟨_, rfl, _, rfl, _, _, _, _, rfl, rfl, hb', hz', rfl, _, rfl, ?_⟩
    rw [hr'.isN]
    cases r with
    | none =>
      refine ifT rfl ⟨_, rfl, _, rfl, _, _, _, _, rfl, rfl, hS', hz, rfl, _, rfl, ?_⟩
      rw [hr.isN]
      exact ifF rfl ⟨e1, _, rfl⟩
    | some r =>
      have lr : r.length = n := okr
      obtain ⟨ra, rfl, hra⟩ := hr
      obtain ⟨rb, rfl, hrb⟩ := hr'
      refine ifF rfl ⟨_, rfl, _, rfl, _, _, _, _, rfl, rfl, hS', hz, _, rfl, _, rfl, _, _, _, _, rfl, rfl, hb', hz', ra, rb, r, rfl, hra, hrb, by omega, fun H2 e2 => ⟨_, rfl, ?_⟩⟩
      exact iteF ⟨e1.trans e2, _, rfl⟩
  · rintro σ H' ⟨e1, m, rfl⟩
    exact hQ H' e1
def spLEnts (K : Fg) : Sp := fun vs H Q _ => ∃ (a b : Addr) (us ws : List V) (es : List Ent) (n : Nat), vs = [.ref a, .ref b] ∧ H a = some (.lst us) ∧ SqL K H b ws ∧ All2 (VE K H) us es ∧ All2 (VE K H) ws es ∧ (∀ e ∈ es, EntOk n e) ∧ n ≤ 1000 ∧ es.length ≤ 1000 ∧ ∀ H', Ex H H' → Q (.bl true) H'
theorem ok__law_is_entries {w : World} {K : Fg} {mg : Str → Option Value} {base : Heap} (T : Top K mg) (D__law_is_entry : Df PR w K mg base 3 "_law_is_entry" [] (spLEnt K)) : FnA PR w K mg base 4 (He.ga K "_law_is_entries") [] ((spLEnts K)) := by
  obtain ⟨_, fd, F⟩ := T.f__law_is_entries
  refine fna_d0 F sc__law_is_entries (fun vs H Q E h => ?_) (fun _ _ _ _ _ _ us hl => match us, hl with | [_, _], _ => rfl) (fun cdv A outer s H vs Q E hr h => ?_)
  · obtain ⟨a, b, us, ws, es, n, rfl, ha, hb, hu, hw, ok, hn, hz, hQ⟩ := h; rfl
  obtain ⟨a, b, us, ws, es, n, rfl, ha, hb, hu, hw, ok, hn, hz, hQ⟩ := h
  refine ⟨_, (pss_cons (ps_if (PW.pt (pw_or (pt_not (pt_val (pe_callB call_isi (by rfl) T.b_isinstance (by decide +kernel) (pa_cons (pv 0) (pa_cons (pe_bltn (v := .ty "list") (u := .type "list") (by rfl) T.b_list (by decide +kernel) rfl) pa_nil))))) (pw_or1 (pt_cmpR op_ne (pe_callB call_len_seq (by rfl) T.b_len (by decide +kernel) (pa_cons (pv 0) pa_nil)) (pe_callB call_len_seq (by rfl) T.b_len (by decide +kernel) (pa_cons (pv 1) pa_nil)) (nomark _))))) (pss_one (ps_ret pe_bl)) pss_nil)
    (pss_one (ps_ret (pe_callB (cr_all rfl) (by rfl) T.b_all (by decide +kernel) (pa_cons (pe_lc (own := [("k", 2)]) (g := gName 2) (tt := tYes) rfl sc__law_is_entries.nd (pi_range1 rfl T.b_range (pa_cons (pe_callB call_len_seq (by rfl) T.b_len (by decide +kernel) (pa_cons (pv 1) pa_nil)) pa_nil)) (blkOk_by (own := [("k", 2)]) (N := ["value", "entries", "k"]) (sc := defScope s__law_is_entries) (by decide +kernel)) (fun _ _ _ _ _ => (pg_name (i := 2) sc__law_is_entries.nd rfl (Or.inl rfl))) (fun _ _ _ _ _ => pts_nil) (fun _ _ _ _ _ => (pe_df D__law_is_entry (hr.mono (by decide)) (by rfl) passLA (pa_cons (pe_ix (r := rIxL K) ix_list (pv 0) (pv 2) (fun _ _ => rfl)) (pa_cons (pe_ix (r := rIxL K) ix_list (pv 1) (pv 2) (fun _ _ => rfl)) pa_nil))))) pa_nil))))), ?_⟩
  have lu := hu.len
  have lw := hw.len
  refine ⟨_, rfl, _, _, _, _, _, rfl, .ty _, tyL ha, kit_ll, true, rfl, ?_⟩
  refine iteF ⟨_, rfl, _, _, rfl, .inl (sq_of ha), _, rfl, _, _, rfl, .inl hb, rfl, _, rfl, ?_⟩
  refine iteNS (by rw [lu, lw]) ?_
  refine ⟨_, rfl, _, _, rfl, .inl hb, _, rfl, by omega, by omega, fun D hD => ?_⟩
  rw [Int.toNat_natCast]
  refine lc_fmR (m := fun i => some true) (R := fun y c _ => y = V.bl c) (szK (by omega)) hD (fun _ _ _ _ _ h => h) (fun i H2 Qy Qn hi e ky kn => ?_) fun ys H2 e hy _ hr => ?_
  · have h1 : us[i]? = some us[i] := List.getElem?_eq_getElem (by omega)
    obtain ⟨en, hen, hve⟩ := hu.get h1
    obtain ⟨z', hz', hve'⟩ := hw.get' hen
    refine ⟨rfl, _, rfl, _, rfl, _, _, _, _, rfl, rfl, sq_of (e _ _ ha), atI_nat h1, _, rfl, _, rfl, _, _, _, _, rfl, rfl, ex_l e hb, atI_nat hz', _, _, en, n, rfl, hve.ex (ExN.of e), hve'.ex (ExN.of e), ok en (List.mem_of_getElem? hen), hn, fun H3 e3 => ky _ true H3 e3 rfl rfl⟩
  · have h2 := all2_eq (f := fun c : Bool => V.bl c) hr
    rw [fm_some] at h2
    refine ⟨D, _, rfl, sq_of (by rw [hy, h2]), ?_⟩
    have e1 : (((List.range ws.length).map fun _ => true).all id) = true := by simp
    rw [e1]
    exact hQ H2 e
def spLLay (K : Fg) : Sp := fun vs H Q _ => ∃ (x b : Addr) (ws : List V) (es : List Ent) (n : Nat), vs = [.ref x, .int (n : Int), .ref b] ∧ VLay K H (He.ga K "Layer") x n es ∧ SqL K H b ws ∧ All2 (VE K H) ws es ∧ (∀ e ∈ es, EntOk n e) ∧ n ≤ 1000 ∧ es.length ≤ 1000 ∧ ∀ H', Ex H H' → Q (.bl true) H'
theorem ok__law_is_layer {w : World} {K : Fg} {mg : Str → Option Value} {base : Heap} (T : Top K mg) (D__law_is_int : Df PR w K mg base 1 "_law_is_int" [] spIsInt) (D__law_is_entries : Df PR w K mg base 4 "_law_is_entries" [] (spLEnts K)) (I_Layer : FnS PR w K mg base (L2.CX PR w) 1 (He.ma K (He.ga K "Layer") "__iter__") (spIter K (He.ga K "Layer") 0)) (L_Layer : FnR PR w K mg base (L2.CX PR w) 1 (He.ma K (He.ga K "Layer") "__len__") (spLen K (He.ga K "Layer") 0)) : FnA PR w K mg base 6 (He.ga K "_law_is_layer") [] ((spLLay K)) := by
  obtain ⟨_, fd, F⟩ := T.f__law_is_layer
  refine fna_d0 F sc__law_is_layer (fun vs H Q E h => ?_) (fun _ _ _ _ _ _ us hl => match us, hl with | [_, _, _], _ => rfl) (fun cdv A outer s H vs Q E hr h => ?_)
  · obtain ⟨x, b, ws, es, n, rfl, hx, hb, hw, ok, hn, hz, hQ⟩ := h; rfl
  obtain ⟨x, b, ws, es, n, rfl, hx, hb, hw, ok, hn, hz, hQ⟩ := h
  refine ⟨_, (pss_cons (ps_if (PW.pt (pw_or (pt_not (pt_val (pe_callB (SlX.call_isiSl (.ref (He.ga K "Layer"))) (by rfl) T.b_isinstance (by decide +kernel) (pa_cons (pv 0) (pa_cons (pe_glob (v := .ref (He.ga K "Layer")) (by rfl) T.g_Layer rfl) pa_nil))))) (pw_or (pt_not (pt_val (pe_df D__law_is_int (hr.mono (by decide)) (by rfl) passLA (pa_cons (SlX.pe_sl (pv 0)) pa_nil)))) (pw_or1 (pt_cmpR op_ne (SlX.pe_sl (pv 0)) (pv 1) (nomark _)))))) (pss_one (ps_ret pe_bl)) pss_nil)
    (pss_one (ps_ret (pe_df D__law_is_entries (hr.mono (by decide)) (by rfl) passLA (pa_cons (pe_callTy (r := rListSl K (He.ga K "Layer") 0) (call_listSl rfl (iterC_of T.m_Layer_iter.1) I_Layer (lenC_of T.m_Layer_len.1) L_Layer (hr.mono (by decide))) (by rfl) T.b_list (by decide +kernel) (pa_cons (pv 0) pa_nil)) (pa_cons (pv 2) pa_nil)))))), ?_⟩
  obtain ⟨dx, le, lk, us, hsl, hle, hv, _⟩ := id hx
  have lu := hv.len
  refine ⟨_, rfl, x, He.ga K "Layer", dx, _, .ref (He.ga K "Layer"), true, rfl, rfl, fun _ h => h, hsl, T.c_Layer, T.o_Layer.isi, T.o_Layer.kt, true, rfl, ?_⟩
  refine iteF ⟨_, rfl, x, _, dx, _, _, 2, _, rfl, hsl, T.c_Layer, T.s_Layer_width, rfl, (n : Int), rfl, true, rfl, ?_⟩
  refine iteF ⟨_, rfl, x, _, dx, _, _, 2, _, rfl, hsl, T.c_Layer, T.s_Layer_width, rfl, _, rfl, rfl, _, rfl, ?_⟩
  refine iteNS rfl ?_
  refine ⟨_, rfl, x, dx, _, le, us, rfl, hsl, rfl, hle, szK (by omega), fun p hp => ?_⟩
  have e1 := Ex.new (o := .lst us) hp
  exact ⟨_, rfl, p, b, us, ws, es, n, rfl, upd_same, ex_l e1 hb, ves_ex (ExN.of e1) hv, ves_ex (ExN.of e1) hw, ok, hn, hz, fun H' e => hQ H' (e1.trans e)⟩
theorem ok__law_key {w : World} {K : Fg} {mg : Str → Option Value} {base : Heap} (T : Top K mg)  : FnA PR w K mg base 1 (He.ga K "_law_key") [] ((spKey K)) := by
  obtain ⟨_, fd, F⟩ := T.f__law_key
  refine fna_d0 F sc__law_key (fun vs H Q E h => ?_) (fun _ _ _ _ _ _ us hl => match us, hl with | [_], _ => rfl) (fun cdv A outer s H vs Q E hr h => ?_)
  · obtain ⟨v, e, n, rfl, ⟨a, x, y, rfl, hS, hx, hy⟩, ok, hn, hQ⟩ := h; rfl
  obtain ⟨v, e, n, rfl, ⟨a, x, y, rfl, hS, hx, hy⟩, ok, hn, hQ⟩ := h
  refine ⟨_, (pss_cons (ps_if (pt_cmpR op_isN (pe_ix ix_tup (pv 0) pe_int (fun _ _ => rfl)) pe_non (nomark _)) (pss_one (ps_ret (pe_ix ix_tup (pe_ix ix_tup (pv 0) pe_int (fun _ _ => rfl)) pe_int (fun _ _ => rfl)))) pss_nil)
    (pss_one (ps_ret (pe_ix ix_tup (pe_ix ix_tup (pv 0) pe_int (fun _ _ => rfl)) pe_int (fun _ _ => rfl))))), ?_⟩
  refine ⟨_, rfl, _, _, _, _, rfl, rfl, hS, atI1 rfl, rfl, _, rfl, ?_⟩
  rw [hx.isN]
  cases ho : e.o with
  | none =>
    refine ifT rfl ?_
    cases hnn : e.n with
    | none => exact (ok.k ho hnn).elim
    | some r =>
      rw [hnn] at hy
      obtain ⟨b, rfl, hb⟩ := hy
      have ro := ok.n
      rw [hnn] at ro
      refine ⟨_, rfl, _, _, _, _, rfl, rfl, hS, atI2 rfl, _, _, _, _, rfl, rfl, hb, atI0 (row0 ro hn), ?_⟩
      have ek : e.key = r.key := by unfold Ent.key; rw [ho, hnn]
      rw [ek] at hQ
      exact hQ
  | some r =>
    refine ifF rfl ?_
    rw [ho] at hx
    obtain ⟨b, rfl, hb⟩ := hx
    have ro := ok.o
    rw [ho] at ro
    refine ⟨_, rfl, _, _, _, _, rfl, rfl, hS, atI1 rfl, _, _, _, _, rfl, rfl, hb, atI0 (row0 ro hn), ?_⟩
    have ek : e.key = r.key := by unfold Ent.key; rw [ho]
    rw [ek] at hQ
    exact hQ
def spChg (K : Fg) : Sp := fun vs H Q _ => ∃ (u : V) (e : Ent) (r s : Rwv), vs = [u] ∧ VE K H u e ∧ e.o = some r ∧ e.n = some s ∧ r.length = s.length ∧ r.length ≤ 1000 ∧ ∀ l H', H l = none → Ex H H' → H' l = some (.lst ((diffC r s).map fun c => V.int (c : Nat))) → Q (.ref l) H'
theorem ok__law_changed {w : World} {K : Fg} {mg : Str → Option Value} {base : Heap} (T : Top K mg)  : FnA PR w K mg base 1 (He.ga K "_law_changed") [] ((spChg K)) := by
  obtain ⟨_, fd, F⟩ := T.f__law_changed
  refine fna_d0 F sc__law_changed (fun vs H Q E h => ?_) (fun _ _ _ _ _ _ us hl => match us, hl with | [_], _ => rfl) (fun cdv A outer s H vs Q E hr h => ?_)
  · obtain ⟨u, e, r, s', rfl, ⟨a, x, y, rfl, hS, hx, hy⟩, ho, hn, hl, hz, hQ⟩ := h; rfl
  obtain ⟨u, e, r, s', rfl, ⟨a, x, y, rfl, hS, hx, hy⟩, ho, hn, hl, hz, hQ⟩ := h
  refine ⟨_, (pss_one (ps_ret (pe_lc (own := [("c", 1)]) (g := gName 1) rfl sc__law_changed.nd (pi_range1 rfl T.b_range (pa_cons (pe_callB call_len_seq (by rfl) T.b_len (by decide +kernel) (pa_cons (pe_ix ix_tup (pv 0) pe_int (fun _ _ => rfl)) pa_nil)) pa_nil)) (blkOk_by (own := [("c", 1)]) (N := ["entry", "c"]) (sc := defScope s__law_changed) (by decide +kernel)) (fun _ _ _ _ _ => (pg_name (i := 1) sc__law_changed.nd rfl (Or.inl rfl))) (fun _ _ _ _ _ => (pts_one (pt_cmpR op_ne (pe_ix (r := rIxT K) ix_tup (pe_ix (r := rIxT K) ix_tup (pv 0) pe_int (fun _ _ => rfl)) (pv 1) (fun _ _ => rfl)) (pe_ix (r := rIxT K) ix_tup (pe_ix (r := rIxT K) ix_tup (pv 0) pe_int (fun _ _ => rfl)) (pv 1) (fun _ _ => rfl)) (nomark _)))) (fun _ _ _ _ _ => (pv 1))))), ?_⟩
  rw [ho] at hx
  rw [hn] at hy
  obtain ⟨ra, rfl, ha⟩ := hx
  obtain ⟨rb, rfl, hb⟩ := hy
  refine ⟨_, rfl, _, _, _, _, rfl, rfl, hS, atI1 rfl, _, _, rfl, .inr ha, _, rfl, by omega, by rw [vis_len]; omega, fun D hD => ?_⟩
  rw [vis_len, Int.toNat_natCast]
  refine lc_fmR (m := fun i => if decide (r[i]? ≠ s'[i]?) = true then some i else none) (R := fun y c _ => y = V.int (c : Nat)) (szK (by omega)) hD (fun _ _ _ _ _ h => h) (fun i H2 Qy Qn hi e ky kn => ?_) fun ys H2 e hy _ hr => ?_
  · have hi2 : i < s'.length := by omega
    refine ⟨rfl, _, rfl, _, _, _, _, rfl, rfl, ex_t e hS, atI1 rfl, _, rfl, _, _, _, _, rfl, rfl, ex_t e ha, row_atI hi, _, rfl, _, _, _, _, rfl, rfl, ex_t e hS, atI2 rfl, _, rfl, _, _, _, _, rfl, rfl, ex_t e hb, row_atI hi2, rfl, _, rfl, ?_⟩
    refine ite2 (fun h => ?_) fun h => kn H2 (Ex.refl _) ?_
    · refine ⟨_, rfl, ky _ i H2 (Ex.refl _) ?_ rfl⟩
      rw [get_getD hi, get_getD hi2, if_pos]
      refine decide_eq_true fun z => ?_
      have z2 : V.int (r.getD i 0) = V.int (s'.getD i 0) := by rw [Option.some.inj z]
      rw [show (!decide (V.int (r.getD i 0) = V.int (s'.getD i 0))) = false by rw [decide_eq_true z2]; rfl] at h
      cases h
    · rw [get_getD hi, get_getD hi2, if_neg]
      intro z
      refine h ?_
      have z2 := of_decide_eq_true z
      show (!decide (V.int (r.getD i 0) = V.int (s'.getD i 0))) = true
      rw [decide_eq_false fun z3 => z2 (by injection z3 with z3; rw [z3])]
      rfl
  · refine hQ D H2 hD e ?_
    rw [hy]
    have h2 := all2_eq (f := fun c : Nat => V.int (c : Nat)) hr
    rw [fm_filter] at h2
    rw [h2]
    rfl
def spRank (K : Fg) : Sp := fun vs H Q _ => ∃ (a : Addr) (k : Int) (us : List V) (rs : List Rwv) (n : Nat), vs = [.ref a, .int k] ∧ SqL K H a us ∧ All2 (VR K H) us rs ∧ (∀ r ∈ rs, RowOk n r) ∧ 1 ≤ n ∧ rs.length ≤ 1000 ∧ ∀ H', Ex H H' → Q (.int ((rs.filter fun r => decide (r.key < k)).length : Nat)) H'
theorem ok__law_rank {w : World} {K : Fg} {mg : Str → Option Value} {base : Heap} (T : Top K mg)  : FnA PR w K mg base 1 (He.ga K "_law_rank") [] ((spRank K)) := by
  obtain ⟨_, fd, F⟩ := T.f__law_rank
  refine fna_d0 F sc__law_rank (fun vs H Q E h => ?_) (fun _ _ _ _ _ _ us hl => match us, hl with | [_, _], _ => rfl) (fun cdv A outer s H vs Q E hr h => ?_)
  · obtain ⟨a, k, us, rs, n, rfl, hS, hv, ok, hn, hz, hQ⟩ := h; rfl
  obtain ⟨a, k, us, rs, n, rfl, hS, hv, ok, hn, hz, hQ⟩ := h
  refine ⟨_, (pss_one (ps_ret (pe_callB call_len_seq (by rfl) T.b_len (by decide +kernel) (pa_cons (pe_lc (own := [("row", 2)]) (g := gName 2) rfl sc__law_rank.nd (pi_list (pv 0)) (blkOk_by (own := [("row", 2)]) (N := ["rows", "key", "row"]) (sc := defScope s__law_rank) (by decide +kernel)) (fun _ _ _ _ _ => (pg_name (i := 2) sc__law_rank.nd rfl (Or.inl rfl))) (fun _ _ _ _ _ => (pts_one (pt_cmpR op_lt (pe_ix (r := rIxT K) ix_tup (pv 2) pe_int (fun _ _ => rfl)) (pv 1) (nomark _)))) (fun _ _ _ _ _ => (pv 2))) pa_nil)))), ?_⟩
  have lu := hv.len
  refine ⟨_, rfl, a, rfl, ⟨_, hS⟩, fun D hD => ?_⟩
  refine lc_fmL (m := fun i => (rs[i]?).bind fun r => if decide (r.key < k) = true then some r else none) (R := fun y r H => VR K H y r) hS (szK (by omega)) hD (fun y e H H' en h => h.ex en) (fun i z H2 Qy Qn hi e ky kn => ?_) fun ys H2 e hy _ hr => ?_
  · obtain ⟨r, hr, hvr⟩ := hv.get hi
    have hvr' := hvr.ex (ExN.of e)
    obtain ⟨ra, rfl, hra⟩ := id hvr'
    refine ⟨rfl, _, rfl, _, _, _, _, rfl, rfl, hra, atI0 (row0 (ok r (List.mem_of_getElem? hr)) hn), _, rfl, _, _, rfl, rfl, _, rfl, ?_⟩
    refine ite2 (fun h => ?_) fun h => kn H2 (Ex.refl _) ?_
    · exact ⟨_, rfl, ky _ r H2 (Ex.refl _) (by rw [hr]; exact if_pos h) hvr'⟩
    · rw [hr]
      exact if_neg h
  · have h2 := hr
    rw [lu, fm_list, fm_filter] at h2
    refine ⟨D, _, rfl, .inl (sq_of hy), ?_⟩
    rw [h2.len]
    exact hQ H2 e
def spLFind (K : Fg) : Sp := fun vs H Q _ => ∃ (a : Addr) (k : Int) (us : List V) (rs : List Rwv) (n : Nat), vs = [.ref a, .int k] ∧ SqL K H a us ∧ All2 (VR K H) us rs ∧ (∀ r ∈ rs, RowOk n r) ∧ 1 ≤ n ∧ ∀ v, VO K H v (findR rs k) → Q v H
theorem findR_step {rs : List Rwv} {k : Int} {i : Nat} {r : Rwv} (h : findR (rs.take i) k = none) (hr : rs[i]? = some r) (hk : ¬ r.key = k) : findR (rs.take (i + 1)) k = none := by
  unfold findR at h ⊢
  rw [take_snoc hr, List.find?_append, h, List.find?_cons, decide_eq_false hk]
  rfl
theorem findR_hit {rs : List Rwv} {k : Int} {i : Nat} {r : Rwv} (h : findR (rs.take i) k = none) (hr : rs[i]? = some r) (hk : r.key = k) : findR rs k = some r := by
  have e : rs = rs.take (i + 1) ++ rs.drop (i + 1) := (List.take_append_drop _ _).symm
  unfold findR at h ⊢
  rw [e, take_snoc hr, List.append_assoc, List.find?_append, h, List.singleton_append, List.find?_cons, decide_eq_true hk]
  rfl
theorem ok__law_find {w : World} {K : Fg} {mg : Str → Option Value} {base : Heap} (T : Top K mg)  : FnA PR w K mg base 1 (He.ga K "_law_find") [] ((spLFind K)) := by
  obtain ⟨_, fd, F⟩ := T.f__law_find
  refine fna_d0 F sc__law_find (fun vs H Q E h => ?_) (fun _ _ _ _ _ _ us hl => match us, hl with | [_, _], _ => rfl) (fun cdv A outer s H vs Q E hr h => ?_)
  · obtain ⟨a, k, us, rs, n, rfl, hS, hv, ok, hn, hQ⟩ := h; rfl
  obtain ⟨a, k, us, rs, n, rfl, hS, hv, ok, hn, hQ⟩ := h
  refine ⟨_, (pss_cons (ps_for poOf rfl (pi_list (pv 0)) (pg_name (i := 2) sc__law_find.nd rfl (Or.inl rfl)) (pss_one (ps_if (pt_cmpR op_eq (pe_ix ix_tup (pv 2) pe_int (fun _ _ => rfl)) (pv 1) (nomark _)) (pss_one (ps_ret (pv 2))) pss_nil)))
    (pss_one (ps_ret pe_non))), ?_⟩
  have lu := hv.len
  refine ⟨_, rfl, a, rfl, ⟨us, hS⟩, ?_⟩
  refine for_list (K := K) (a := a) (xs := us) (fun i σ H' => H' = H ∧ findR (rs.take i) k = none ∧ ∃ m, σ = [some (.ref a), some (.int k), m]) ⟨rfl, rfl, _, rfl⟩ (fun i σ H' _ p => by rw [p.1]; exact hS) ?_ ?_
  · rintro i z σ H' hi ⟨rfl, hf, m, rfl⟩
    obtain ⟨r, hr, hvr⟩ := hv.get hi
    obtain ⟨ra, rfl, hra⟩ := id hvr
    refine ⟨_, rfl, _, _, _, _, rfl, rfl, hra, atI0 (row0 (ok r (List.mem_of_getElem? hr)) hn), _, rfl, rfl, _, rfl, ?_⟩
    refine ite2 (fun h => ?_) fun h => ⟨rfl, findR_step hf hr (fun z => h (by rw [z]; exact decide_eq_true rfl)), _, rfl⟩
    have ek : r.key = k := by
      have h2 := of_decide_eq_true h
      injection h2
    refine ⟨_, rfl, hQ _ ?_⟩
    rw [findR_hit hf hr ek]
    exact hvr
  · rintro σ H' ⟨rfl, hf, m, rfl⟩
    rw [lu, List.take_length] at hf
    refine hQ _ ?_
    rw [hf]
    rfl

end Kx

end

section
set_option Elab.async false
set_option linter.all false
set_option maxRecDepth 100000
set_option maxHeartbeats 4000000
namespace Kx
open PySem PySem.Spec PyProof.Rows L2 Evl Pl
/-! ### pairs, parts of a layer, entries -/
def spLPairs (K : Fg) : Sp := fun vs H Q _ => ∃ (t l : Addr) (us ws : List V) (ps : List (Int × Int)), vs = [.ref t, .ref l] ∧ SqT K H t us ∧ SqL K H l ws ∧ All2 (VP K H) us ps ∧ All2 (VP K H) ws ps ∧ ps.length ≤ 1000 ∧ ∀ H', Ex H H' → Q (.bl true) H'
theorem ok__law_are_pairs {w : World} {K : Fg} {mg : Str → Option Value} {base : Heap} (T : Top K mg) (D__law_is_row : Df PR w K mg base 2 "_law_is_row" [] (spLRow K)) : FnA PR w K mg base 3 (He.ga K "_law_are_pairs") [] ((spLPairs K)) := by
  obtain ⟨_, fd, F⟩ := T.f__law_are_pairs
  refine fna_d0 F sc__law_are_pairs (fun vs H Q E h => ?_) (fun _ _ _ _ _ _ us hl => match us, hl with | [_, _], _ => rfl) (fun cdv A outer s H vs Q E hr h => ?_)
  · obtain ⟨t, l, us, ws, ps, rfl, ht, hl, hu, hw, hz, hQ⟩ := h; rfl
  obtain ⟨t, l, us, ws, ps, rfl, ht, hl, hu, hw, hz, hQ⟩ := h
  refine ⟨_, (pss_cons (ps_if (PW.pt (pw_or (pt_not (pt_val (pe_callB call_isi (by rfl) T.b_isinstance (by decide +kernel) (pa_cons (pv 0) (pa_cons (pe_bltn (v := .ty "tuple") (u := .type "tuple") (by rfl) T.b_tuple (by decide +kernel) rfl) pa_nil))))) (pw_or1 (pt_cmpR op_ne (pe_callB call_len_seq (by rfl) T.b_len (by decide +kernel) (pa_cons (pv 0) pa_nil)) (pe_callB call_len_seq (by rfl) T.b_len (by decide +kernel) (pa_cons (pv 1) pa_nil)) (nomark _))))) (pss_one (ps_ret pe_bl)) pss_nil)
    (pss_one (ps_ret (pe_callB (cr_all rfl) (by rfl) T.b_all (by decide +kernel) (pa_cons (pe_lc (own := [("k", 2)]) (g := gName 2) (tt := tYes) rfl sc__law_are_pairs.nd (pi_range1 rfl T.b_range (pa_cons (pe_callB call_len_seq (by rfl) T.b_len (by decide +kernel) (pa_cons (pv 1) pa_nil)) pa_nil)) (blkOk_by (own := [("k", 2)]) (N := ["value", "pairs", "k"]) (sc := defScope s__law_are_pairs) (by decide +kernel)) (fun _ _ _ _ _ => (pg_name (i := 2) sc__law_are_pairs.nd rfl (Or.inl rfl))) (fun _ _ _ _ _ => pts_nil) (fun _ _ _ _ _ => (pe_df D__law_is_row (hr.mono (by decide)) (by rfl) passLA (pa_cons (pe_ix (r := rIxT K) ix_tup (pv 0) (pv 2) (fun _ _ => rfl)) (pa_cons (pe_ix (r := rIxL K) ix_list (pv 1) (pv 2) (fun _ _ => rfl)) pa_nil))))) pa_nil))))), ?_⟩
  have lu := hu.len
  have lw := hw.len
  refine ⟨_, rfl, _, _, _, _, _, rfl, .ty _, tyT ht, kit_tt, true, rfl, ?_⟩
  refine iteF ⟨_, rfl, _, _, rfl, .inr ht, _, rfl, _, _, rfl, .inl hl, rfl, _, rfl, ?_⟩
  refine iteNS (by rw [lu, lw]) ?_
  refine ⟨_, rfl, _, _, rfl, .inl hl, _, rfl, by omega, by omega, fun D hD => ?_⟩
  rw [Int.toNat_natCast]
  refine lc_fmR (m := fun i => some true) (R := fun y c _ => y = V.bl c) (szK (by omega)) hD (fun _ _ _ _ _ h => h) (fun i H2 Qy Qn hi e ky kn => ?_) fun ys H2 e hy _ hr => ?_
  · have h1 : us[i]? = some us[i] := List.getElem?_eq_getElem (by omega)
    obtain ⟨p, hp, hvp⟩ := hu.get h1
    obtain ⟨z', hz', hvp'⟩ := hw.get' hp
    obtain ⟨pa, ea, hpa⟩ := hvp.ex (ExN.of e)
    obtain ⟨pb, eb, hpb⟩ := hvp'.ex (ExN.of e)
    refine ⟨rfl, _, rfl, _, rfl, _, _, _, _, rfl, rfl, ex_t e ht, atI_nat h1, _, rfl, _, rfl, _, _, _, _, rfl, rfl, ex_l e hl, atI_nat hz', pa, pb, [p.1, p.2], by rw [ea, eb], hpa, hpb, by simp, fun H3 e3 => ky _ true H3 e3 rfl rfl⟩
  · have h2 := all2_eq (f := fun c : Bool => V.bl c) hr
    rw [fm_some] at h2
    refine ⟨D, _, rfl, sq_of (by rw [hy, h2]), ?_⟩
    have e1 : (((List.range ws.length).map fun _ => true).all id) = true := by simp
    rw [e1]
    exact hQ H2 e
theorem in_ints {ks : List Int} {c : Int} : inV (.int c) (vis ks) = ks.contains c := by
  induction ks with
  | nil => rfl
  | cons a l ih =>
    show (inV (.int c) (.int a :: vis l)) = _
    rw [List.contains_cons, ← ih]
    show ((a == c) || _) = _
    congr 1
    by_cases h : c = a
    · rw [h]
    · rw [beq_eq_false_iff_ne.mpr h, beq_eq_false_iff_ne.mpr fun z => h z.symm]
theorem flat_vis {ks : List Int} : (vis ks).all flatV = true := by
  unfold vis
  rw [List.all_map, List.all_eq_true]
  exact fun _ _ => rfl
def keepM (ks : List Int) (b : Bool) (es : List Ent) : List Ent := es.filter fun e => ks.contains e.key == b
def spOnlyI (K : Fg) (b : Bool) : Sp := fun vs H Q _ => ∃ (x p : Addr) (n : Nat) (es : List Ent) (ks : List Int), vs = [.ref x, .ref p] ∧ VLay K H (He.ga K "Layer") x n es ∧ SqT K H p (vis ks) ∧ EntsOk n es ∧ 1 ≤ n ∧ n ≤ 1000 ∧ es.length ≤ 1000 ∧ EntsOk n (keepM ks b es) ∧
  ∀ z H', H z = none → Ex H H' → VLay K H' (He.ga K "Layer") z n (keepM ks b es) → Q (.ref z) H'
theorem Walked.lit {w : World} {K : Fg} {mg : Str → Option Value} {base : Heap} {k : Nat} {N : List Str} {q : Str} {st : Stmt} {f : Addr} {sp : Sp} (h : Walked PR w K mg base k N q st f sp) : Walked PR w K mg base k N q st f sp := h
theorem walk_Layer_only {w : World} {K : Fg} {mg : Str → Option Value} {base : Heap} (T : Top K mg) (M_Layer2 : Mkr PR w K mg base 6 (He.ga K "Layer") [] (spLayInit K)) (D_entry_key : Df PR w K mg base 1 "entry_key" [] (spKey K)) : Walked PR w K mg base 7 ["self", "chosen", "entry"] "Layer.only" s_Layer_only (He.ma K (He.ga K "Layer") "only") ((spOnlyI K true)) := by
  intro cdv A outer s H vs Q E hr h
  obtain ⟨x, p, n, es, ks, rfl, h1, hp, ok, hn, hn2, hz, okk, hQ⟩ := h
  refine ⟨_, (pss_one (ps_ret (pe_mk M_Layer2 (hr.mono (by decide)) (by rfl) T.g_Layer passLA (pa_cons (SlX.pe_sl (pv 0)) (pa_cons (pe_lc (own := [("entry", 2)]) (g := gName 2) rfl sc_Layer_only.nd (pi_list (SlX.pe_sl (pv 0))) (blkOk_by (own := [("entry", 2)]) (N := ["self", "chosen", "entry"]) (sc := defScope s_Layer_only) (by decide +kernel)) (fun _ _ _ _ _ => (pg_name (i := 2) sc_Layer_only.nd rfl (Or.inl rfl))) (fun _ _ _ _ _ => (pts_one (pt_cmpR (r := rIn K false) op_in_seq (pe_df D_entry_key (hr.mono (by decide)) (by rfl) passLA (pa_cons (pv 2) pa_nil)) (pv 1) (by rfl)))) (fun _ _ _ _ _ => (pv 2))) pa_nil))))), ?_⟩
  obtain ⟨dx, le, lk, us, hsl, hle, hv, _⟩ := id h1
  have lu := hv.len
  refine ⟨_, rfl, x, _, dx, _, _, 2, _, rfl, hsl, T.c_Layer, T.s_Layer_width, rfl, _, rfl, x, _, dx, _, _, 0, _, rfl, hsl, T.c_Layer, T.s_Layer__entries, rfl, le, rfl, ⟨us, hle⟩, fun D hD => ?_⟩
  refine lc_fmL (m := fun i => (es[i]?).bind fun e => if (ks.contains e.key == true) = true then some e else none) (R := fun y e H => VE K H y e) hle (szK (by omega)) hD (fun y e H H' en h => h.ex en) (fun i z H2 Qy Qn hi e ky kn => ?_) fun ys H2 e hy _ hr => ?_
  · obtain ⟨en, he, hve⟩ := hv.get hi
    have hve' := hve.ex (ExN.of e)
    refine ⟨rfl, _, rfl, z, en, n, rfl, hve', (ok.all en (List.mem_of_getElem? he)).key, hn, _, rfl, p, _, rfl, .inr (ex_t e hp), rfl, flat_vis, _, rfl, ?_⟩
    have ei := in_ints (ks := ks) (c := en.key)
    refine ite2 (fun h => ?_) fun h => kn H2 (Ex.refl _) ?_
    · exact ⟨_, rfl, ky _ en H2 (Ex.refl _) (by rw [he]; exact if_pos (by rw [← ei, show inV (.int en.key) (vis ks) = true from h]; rfl)) hve'⟩
    · rw [he]
      refine if_neg fun z => h ?_
      rw [beq_true] at z
      exact ei.trans z
  · have hr2 : All2 (VE K H2) ys (keepM ks true es) := by
      have h3 := hr
      rw [lu, fm_list, fm_filter] at h3
      exact h3
    refine ⟨rfl, fun z dz hz1 hdz hne => ?_⟩
    have g := mk_en (C := He.ga K "Layer") hz1 hdz
    have lk2 : (keepM ks true es).length ≤ es.length := List.length_filter_le _ _
    refine ⟨z, dz, D, true, ys, keepM ks true es, n, rfl, fresh_of hne, ex_l g (sq_of hy), ves_ex (ExN.of g) hr2, hn, hn2, okk, by omega, fun H3 e3 hlay => ⟨rfl, ?_⟩⟩
    exact hQ z H3 (fresh_back e hz1) (e.trans (ExI.new hz1 hdz e3)) hlay
theorem walk_Layer_without {w : World} {K : Fg} {mg : Str → Option Value} {base : Heap} (T : Top K mg) (M_Layer2 : Mkr PR w K mg base 6 (He.ga K "Layer") [] (spLayInit K)) (D_entry_key : Df PR w K mg base 1 "entry_key" [] (spKey K)) : Walked PR w K mg base 7 ["self", "chosen", "entry"] "Layer.without" s_Layer_without (He.ma K (He.ga K "Layer") "without") ((spOnlyI K false)) := by
  intro cdv A outer s H vs Q E hr h
  obtain ⟨x, p, n, es, ks, rfl, h1, hp, ok, hn, hn2, hz, okk, hQ⟩ := h
  refine ⟨_, (pss_one (ps_ret (pe_mk M_Layer2 (hr.mono (by decide)) (by rfl) T.g_Layer passLA (pa_cons (SlX.pe_sl (pv 0)) (pa_cons (pe_lc (own := [("entry", 2)]) (g := gName 2) rfl sc_Layer_without.nd (pi_list (SlX.pe_sl (pv 0))) (blkOk_by (own := [("entry", 2)]) (N := ["self", "chosen", "entry"]) (sc := defScope s_Layer_without) (by decide +kernel)) (fun _ _ _ _ _ => (pg_name (i := 2) sc_Layer_without.nd rfl (Or.inl rfl))) (fun _ _ _ _ _ => (pts_one (pt_cmpR (r := rIn K true) op_notIn_seq (pe_df D_entry_key (hr.mono (by decide)) (by rfl) passLA (pa_cons (pv 2) pa_nil)) (pv 1) (by rfl)))) (fun _ _ _ _ _ => (pv 2))) pa_nil))))), ?_⟩
  obtain ⟨dx, le, lk, us, hsl, hle, hv, _⟩ := id h1
  have lu := hv.len
  refine ⟨_, rfl, x, _, dx, _, _, 2, _, rfl, hsl, T.c_Layer, T.s_Layer_width, rfl, _, rfl, x, _, dx, _, _, 0, _, rfl, hsl, T.c_Layer, T.s_Layer__entries, rfl, le, rfl, ⟨us, hle⟩, fun D hD => ?_⟩
  refine lc_fmL (m := fun i => (es[i]?).bind fun e => if (ks.contains e.key == false) = true then some e else none) (R := fun y e H => VE K H y e) hle (szK (by omega)) hD (fun y e H H' en h => h.ex en) (fun i z H2 Qy Qn hi e ky kn => ?_) fun ys H2 e hy _ hr => ?_
  · obtain ⟨en, he, hve⟩ := hv.get hi
    have hve' := hve.ex (ExN.of e)
    refine ⟨rfl, _, rfl, z, en, n, rfl, hve', (ok.all en (List.mem_of_getElem? he)).key, hn, _, rfl, p, _, rfl, .inr (ex_t e hp), rfl, flat_vis, _, rfl, ?_⟩
    have ei := in_ints (ks := ks) (c := en.key)
    refine ite2 (fun h => ?_) fun h => kn H2 (Ex.refl _) ?_
    · exact ⟨_, rfl, ky _ en H2 (Ex.refl _) (by
        rw [he]
        refine if_pos ?_
        have h2 : (!inV (.int en.key) (vis ks)) = true := h
        rw [ei] at h2
        rw [show ks.contains en.key = false by simpa using h2]
        rfl) hve'⟩
    · rw [he]
      refine if_neg fun z => h ?_
      show (!inV (.int en.key) (vis ks)) = true
      rw [ei, eq_of_beq z]
      rfl
  · have hr2 : All2 (VE K H2) ys (keepM ks false es) := by
      have h3 := hr
      rw [lu, fm_list, fm_filter] at h3
      exact h3
    refine ⟨rfl, fun z dz hz1 hdz hne => ?_⟩
    have g := mk_en (C := He.ga K "Layer") hz1 hdz
    have lk2 : (keepM ks false es).length ≤ es.length := List.length_filter_le _ _
    refine ⟨z, dz, D, true, ys, keepM ks false es, n, rfl, fresh_of hne, ex_l g (sq_of hy), ves_ex (ExN.of g) hr2, hn, hn2, okk, by omega, fun H3 e3 hlay => ⟨rfl, ?_⟩⟩
    exact hQ z H3 (fresh_back e hz1) (e.trans (ExI.new hz1 hdz e3)) hlay
def spOnly (K : Fg) (b : Bool) : Sp := fun vs H Q E => ∃ a rest, vs = a :: rest ∧ rest.length ≤ 12 ∧ ∀ p, H p = none → spOnlyI K b [a, .ref p] (upd H p (.tup rest)) Q E
section
variable {w : World} {K : Fg} {mg : Str → Option Value} {base : Heap} (T : Top K mg) (M_Layer2 : Mkr PR w K mg base 6 (He.ga K "Layer") [] (spLayInit K)) (D_entry_key : Df PR w K mg base 1 "entry_key" [] (spKey K))
include T M_Layer2 D_entry_key
theorem bind12 {P : List Value → Prop} (h : ∀ r : List Value, r.length ≤ 12 → P r) : ∀ r : List Value, r.length ≤ 12 → P r := h
theorem ok_Layer_only : FnA PR w K mg base 8 (He.ma K (He.ga K "Layer") "only") [] (spOnly K true) := by
  obtain ⟨_, fd, F⟩ := T.m_Layer_only
  exact fna_star0 (nmax := 12) F sc_Layer_only (fun _ _ _ _ _ _ a rest hl => match rest, hl with | [], _ => rfl | [_], _ => rfl | [_, _], _ => rfl | [_, _, _], _ => rfl | [_, _, _, _], _ => rfl | [_, _, _, _, _], _ => rfl | [_, _, _, _, _, _], _ => rfl | [_, _, _, _, _, _, _], _ => rfl | [_, _, _, _, _, _, _, _], _ => rfl | [_, _, _, _, _, _, _, _, _], _ => rfl | [_, _, _, _, _, _, _, _, _, _], _ => rfl | [_, _, _, _, _, _, _, _, _, _, _], _ => rfl | [_, _, _, _, _, _, _, _, _, _, _, _], _ => rfl | _ :: _ :: _ :: _ :: _ :: _ :: _ :: _ :: _ :: _ :: _ :: _ :: _ :: _, hl => absurd hl (by simp)) (by rw [sizeLine_eq]; decide) (walk_Layer_only T M_Layer2 D_entry_key)
theorem ok_Layer_without : FnA PR w K mg base 8 (He.ma K (He.ga K "Layer") "without") [] (spOnly K false) := by
  obtain ⟨_, fd, F⟩ := T.m_Layer_without
  exact fna_star0 (nmax := 12) F sc_Layer_without (fun _ _ _ _ _ _ a rest hl => match rest, hl with | [], _ => rfl | [_], _ => rfl | [_, _], _ => rfl | [_, _, _], _ => rfl | [_, _, _, _], _ => rfl | [_, _, _, _, _], _ => rfl | [_, _, _, _, _, _], _ => rfl | [_, _, _, _, _, _, _], _ => rfl | [_, _, _, _, _, _, _, _], _ => rfl | [_, _, _, _, _, _, _, _, _], _ => rfl | [_, _, _, _, _, _, _, _, _, _], _ => rfl | [_, _, _, _, _, _, _, _, _, _, _], _ => rfl | [_, _, _, _, _, _, _, _, _, _, _, _], _ => rfl | _ :: _ :: _ :: _ :: _ :: _ :: _ :: _ :: _ :: _ :: _ :: _ :: _ :: _, hl => absurd hl (by simp)) (by rw [sizeLine_eq]; decide) (walk_Layer_without T M_Layer2 D_entry_key)
end

end Kx

end

section
set_option Elab.async false
set_option linter.all false
set_option maxRecDepth 100000
set_option maxHeartbeats 4000000
namespace Kx
open PySem PySem.Spec PyProof.Rows L2 Evl Pl
/-! ### the law's entries, rows -/
theorem fmt_none {α β : Type} {F : α → Option β} {l : List α} {i : Nat} {k : α} (hk : l[i]? = some k) (h : F k = none) : (l.take (i + 1)).filterMap F = (l.take i).filterMap F := by
  rw [take_snoc hk, List.filterMap_append, List.filterMap_cons_none h, List.filterMap_nil, List.append_nil]
theorem fmt_some {α β : Type} {F : α → Option β} {l : List α} {i : Nat} {k : α} {b : β} (hk : l[i]? = some k) (h : F k = some b) : (l.take (i + 1)).filterMap F = (l.take i).filterMap F ++ [b] := by
  rw [take_snoc hk, List.filterMap_append, List.filterMap_cons_some h, List.filterMap_nil]
def entF (rs ts : List Rwv) (ks : List Int) (k : Int) : Option Ent := if findR rs k = findR ts k then none else some ⟨rk (findR rs) ks k, findR rs k, findR ts k⟩
def spLEntries (K : Fg) : Sp := fun vs H Q _ => ∃ (a b : Addr) (us ws : List V) (rs ts : List Rwv) (n : Nat), vs = [.ref a, .ref b] ∧ H a = some (.lst us) ∧ H b = some (.lst ws) ∧ All2 (VR K H) us rs ∧ All2 (VR K H) ws ts ∧ RowsOk n rs ∧ RowsOk n ts ∧ 1 ≤ n ∧ rs.length ≤ 12 ∧ ts.length ≤ 12 ∧
  ∀ l vs H', H l = none → Ex H H' → H' l = some (.lst vs) → All2 (VE K H') vs (dif (keysU ((rs ++ ts).map Rwv.key)) (findR rs) (findR ts)) → Q (.ref l) H'
theorem ok__law_entries {w : World} {K : Fg} {mg : Str → Option Value} {base : Heap} (T : Top K mg) (D__law_find : Df PR w K mg base 1 "_law_find" [] (spLFind K)) (D__law_rank : Df PR w K mg base 1 "_law_rank" [] (spRank K)) : FnA PR w K mg base 2 (He.ga K "_law_entries") [] ((spLEntries K)) := by
  obtain ⟨_, fd, F⟩ := T.f__law_entries
  refine fna_d0 F sc__law_entries (fun vs H Q E h => ?_) (fun _ _ _ _ _ _ us hl => match us, hl with | [_, _], _ => rfl) (fun cdv A outer s H vs Q E hr h => ?_)
  · obtain ⟨a, b, us, ws, rs, ts, n, rfl, ha, hb, hu, hw, ok1, ok2, hn, hz1, hz2, hQ⟩ := h; rfl
  obtain ⟨a, b, us, ws, rs, ts, n, rfl, ha, hb, hu, hw, ok1, ok2, hn, hz1, hz2, hQ⟩ := h
  refine ⟨_, (pss_cons (ps_set (i := 2) sc__law_entries.nd rfl (Or.inl rfl) (pe_lst pa_nil))
    (pss_cons (ps_for poOf rfl (pi_list (pe_callB (r := rSortedSet w) (cr_sortedSet rfl) (by rfl) T.b_sorted (by decide +kernel) (pa_cons (pe_callTy (r := rSetOfI K w) (cr_setOfI rfl) (by rfl) T.b_set (by decide +kernel) (pa_cons (pe_lc (own := [("row", 6)]) (g := gName 6) (tt := tYes) rfl sc__law_entries.nd (pi_list (pe_op op_cat (pv 0) (pv 1))) (blkOk_by (own := [("row", 6)]) (N := ["rows", "target", "entries", "key", "old", "new", "row"]) (sc := defScope s__law_entries) (by decide +kernel)) (fun _ _ _ _ _ => (pg_name (i := 6) sc__law_entries.nd rfl (Or.inl rfl))) (fun _ _ _ _ _ => pts_nil) (fun _ _ _ _ _ => (pe_ix (r := rIxT K) ix_tup (pv 6) pe_int (fun _ _ => rfl)))) pa_nil)) pa_nil))) (pg_name (i := 3) sc__law_entries.nd rfl (Or.inl rfl)) (pss_cons (ps_set (i := 4) sc__law_entries.nd rfl (Or.inl rfl) (pe_df D__law_find (hr.mono (by decide)) (by rfl) passLA (pa_cons (pv 0) (pa_cons (pv 3) pa_nil))))
    (pss_cons (ps_set (i := 5) sc__law_entries.nd rfl (Or.inl rfl) (pe_df D__law_find (hr.mono (by decide)) (by rfl) passLA (pa_cons (pv 1) (pa_cons (pv 3) pa_nil))))
    (pss_one (ps_if (pt_cmpR (op_neD hr.units) (pv 4) (pv 5) (nomark _)) (pss_one (ps_expr (pe_bm PySem.F.plainAttrs_list PySem.F.slot_list_append PySem.F.type_list_append mt_append (pv 2) (pa_cons (pe_tup (pa_cons (pe_df D__law_rank (hr.mono (by decide)) (by rfl) passLA (pa_cons (pv 0) (pa_cons (pv 3) pa_nil))) (pa_cons (pv 4) (pa_cons (pv 5) pa_nil)))) pa_nil)))) pss_nil)))))
    (pss_one (ps_ret (pv 2))))), ?_⟩
  have lu := hu.len
  have lw := hw.len
  refine ⟨Nat.zero_le _, fun D hD => ?_⟩
  have f0 := Ex.new (o := .lst []) hD
  refine ⟨_, rfl, _, rfl, a, b, us, ws, rfl, rfl, f0 _ _ ha, f0 _ _ hb, Nat.le_of_lt (szK (by omega)), fun p hp => ⟨p, rfl, ⟨_, sq_of upd_same⟩, fun E hE => ?_⟩⟩
  have f1 := Ex.new (o := .lst (us ++ ws)) hp
  have hall : All2 (VR K H) (us ++ ws) (rs ++ ts) := hu.app hw
  have okall : ∀ r ∈ rs ++ ts, RowOk n r := fun r hr => (List.mem_append.mp hr).elim (ok1.all r) (ok2.all r)
  refine lc_mapN (ys := vis ((rs ++ ts).map Rwv.key)) (sq_of upd_same) (szK (by rw [List.length_append]; omega)) hE (by rw [vis_len, List.length_map, List.length_append, List.length_append, lu, lw]) (fun _ => rfl) (fun i z y H4 Q' hx hy e4 q => ?_) fun H4 e4 hy => ?_
  · obtain ⟨r, hr, hvr⟩ := hall.get hx
    rw [List.getElem?_map, List.getElem?_map, hr] at hy
    have ey : y = .int r.key := (Option.some.inj hy).symm
    subst ey
    obtain ⟨ra, rfl, hra⟩ := hvr.ex (ExN.of ((f0.trans f1).trans e4))
    exact ⟨_, rfl, _, _, _, _, rfl, rfl, hra, atI0 (row0 (okall r (List.mem_of_getElem? hr)) hn), q H4 (Ex.refl _)⟩
  have e5 := (f0.trans f1).trans e4
  have lks : ((rs ++ ts).map Rwv.key).length ≤ 24 := by
    rw [List.length_map, List.length_append]
    omega
  refine ⟨E, _, rfl, sq_of hy, by omega, fun S c hS hc => ?_⟩
  refine ⟨S, _, c, rfl, upd_same, by omega, fun ks L pw mem hnlen hL => ⟨L, rfl, ⟨_, sq_of upd_same⟩, ?_⟩⟩
  have eks : ks = keysU ((rs ++ ts).map Rwv.key) := keysU_rise pw fun x => by rw [mem, decide_eq_true_eq]
  have e6 := e5.trans ((Ex.new (o := SetO w S (fun j => decide (j ∈ (rs ++ ts).map Rwv.key)) c) hS).trans (Ex.new (o := .lst (ks.map V.int)) hL))
  have hD1 : upd (upd H4 S (SetO w S (fun j => decide (j ∈ (rs ++ ts).map Rwv.key)) c)) L (.lst (ks.map V.int)) D = some (.lst []) := ((f1.trans e4).trans ((Ex.new hS).trans (Ex.new hL))) _ _ upd_same
  have hL1 : upd (upd H4 S (SetO w S (fun j => decide (j ∈ (rs ++ ts).map Rwv.key)) c)) L (.lst (ks.map V.int)) L = some (.lst (vis ks)) := upd_same
  generalize upd (upd H4 S (SetO w S (fun j => decide (j ∈ (rs ++ ts).map Rwv.key)) c)) L (.lst (ks.map V.int)) = H5 at e6 hD1 hL1
  have nLD : L ≠ D := fun z => by
    rw [← z] at hD
    have hh : (upd H D (.lst [])) D = some (.lst []) := upd_same
    have h7 := (f1.trans e4) _ _ hh
    have h8 := Ex.new (o := SetO w S (fun j => decide (j ∈ (rs ++ ts).map Rwv.key)) c) hS _ _ h7
    rw [← z, hL] at h8
    cases h8
  rw [← eks] at hQ
  refine for_list (K := K) (a := L) (xs := vis ks) (fun i σ H' => Ex H H' ∧ H' L = some (.lst (vis ks)) ∧ ∃ vs m1 m2 m3 m4, H' D = some (.lst vs) ∧ vs.length ≤ i ∧ All2 (VE K H') vs ((ks.take i).filterMap (entF rs ts ks)) ∧
    σ = [some (.ref a), some (.ref b), some (.ref D), m1, m2, m3, m4]) ⟨e6, hL1, [], _, _, _, _, hD1, Nat.le_refl _, .nil, rfl⟩ (fun i σ H' _ p => sq_of p.2.1) ?_ ?_
  · rintro i z σ H' hi ⟨e, hL', vs, m1, m2, m3, m4, hD', hvl, hvs, rfl⟩
    rw [List.getElem?_map] at hi
    obtain ⟨k, hk, rfl⟩ := Option.map_eq_some_iff.mp hi
    have hilt := (List.getElem?_eq_some_iff.mp hk).1
    have hkl : ks.length ≤ 24 := by omega
    refine ⟨_, rfl, _, rfl, a, k, us, rs, n, rfl, sq_of (e _ _ ha), vrs_ex (ExN.of e) hu, ok1.all, hn, fun v hv => ?_⟩
    refine ⟨_, rfl, _, rfl, b, k, ws, ts, n, rfl, sq_of (e _ _ hb), vrs_ex (ExN.of e) hw, ok2.all, hn, fun v2 hv2 => ?_⟩
    refine ⟨_, rfl, _, rfl, ?_⟩
    refine rNe_rows hv hv2 ⟨_, rfl, ?_⟩
    refine ite2 (fun h => ?_) fun h => ?_
    · have hne : findR rs k ≠ findR ts k := fun z => by rw [decide_eq_true z] at h; cases h
      refine ⟨_, rfl, .inl ⟨rfl, _, sq_of hD'⟩, ?_⟩
      refine ⟨_, rfl, _, rfl, a, k, us, rs, n, rfl, sq_of (e _ _ ha), vrs_ex (ExN.of e) hu, ok1.all, hn, by omega, fun H2 e2 => ?_⟩
      refine ⟨_, rfl, _, rfl, sz3, fun t ht => ?_⟩
      have hD2 := e2 _ _ hD'
      have hDt : D ≠ t := ne_of_none hD2 ht
      have nt := (Ex.new (o := .tup [.int ((rs.filter fun r => decide (r.key < k)).length : Nat), v, v2]) ht)
      refine ⟨D, vs, _, rfl, rfl, nt _ _ hD2, szK (by omega), ?_⟩
      have eN := (ExN.of (e2.trans nt)).trans (ExN.list (ys := vs ++ [.ref t]) (nt _ _ hD2))
      have hL2 := nt _ _ (e2 _ _ hL')
      refine ⟨Ex.mut ((e.trans e2).trans nt) hD, by rw [upd_ne nLD]; exact hL2, vs ++ [.ref t], _, _, _, _, upd_same, by rw [List.length_append]; exact Nat.succ_le_succ hvl, ?_, rfl⟩
      have hF : entF rs ts ks k = some ⟨rk (findR rs) ks k, findR rs k, findR ts k⟩ := if_neg hne
      rw [fmt_some hk hF]
      refine (ves_ex eN hvs).app ?_
      refine .cons ⟨t, v, v2, rfl, ?_, hv.ex eN, hv2.ex eN⟩ .nil
      have ht2 : (upd (upd H2 t (.tup [.int ((rs.filter fun r => decide (r.key < k)).length : Nat), v, v2])) D (.lst (vs ++ [.ref t]))) t = some (.tup [.int ((rs.filter fun r => decide (r.key < k)).length : Nat), v, v2]) := by rw [upd_ne (Ne.symm hDt), upd_same]
      have er := rank_eq ok1 pw (fun r hr => (mem r.key).mpr (decide_eq_true (List.mem_map.mpr ⟨r, List.mem_append_left _ hr, rfl⟩))) k
      show SqT K _ t [.int (rk (findR rs) ks k), v, v2]
      rw [← er]
      exact st_of ht2
    · have heq : findR rs k = findR ts k := Classical.byContradiction fun z => h (by rw [decide_eq_false z]; rfl)
      refine ⟨e, hL', vs, _, _, _, _, hD', by omega, ?_, rfl⟩
      have hF : entF rs ts ks k = none := if_pos heq
      rw [fmt_none hk hF]
      exact hvs
  · rintro σ H' ⟨e, hL', vs, m1, m2, m3, m4, hD', hvl, hvs, rfl⟩
    rw [vis_len, List.take_length] at hvs
    refine ⟨_, rfl, hQ D vs H' hD e hD' ?_⟩
    rw [dif_eq pw]
    exact hvs

end Kx

end

section
set_option Elab.async false
set_option linter.all false
set_option maxRecDepth 100000
set_option maxHeartbeats 4000000
namespace Kx
open PySem PySem.Spec PyProof.Rows L2 Evl Pl
/-! ### rows drawn -/
theorem lc_nums {K : Fg} {a b E : Addr} {ns : List Int} {m j : Nat} {σ : L2.St} {H1 : Hp} {te : TE} {vs : List Nat} {Qd : Hp → Prop} (hB : Box K H1 a b ns) (hE : H1 E = none) (hm : m < 1000) (hw : ∀ x, wipe ((wipe σ vs).set j (some x)) vs = wipe σ vs)
    (hs : ∀ (i : Nat) H2 (Q : VK), Box K H2 a b ns → (∀ (v : Int) H3, ExX b H2 H3 → Box K H3 a b ns → Q (.int v) H3) → te ((wipe σ vs).set j (some (.int (i : Nat)))) H2 Q)
    (q : ∀ (r : Rwv) H2, r.length = m → H2 E = some (.lst (vis r)) → ExX b H1 H2 → Box K H2 a b ns → Qd H2) :
    ∃ W : Nat → Nat → Hp → Prop, (∃ m, W 0 m (upd H1 E (.lst []))) ∧ ∀ i m' H, W i m' H →
      ((Itr 0 m).stop i H ∧ Qd H) ∨ ((Itr 0 m).go i H ∧ ∃ Nx : Hp → Prop, (∀ H', Nx H' → ∃ m'', m'' < m' ∧ W (i + 1) m'' H') ∧ ∀ x H', (Itr 0 m).yld i H x H' → gName j x (wipe σ vs) H' fun σ2 H2 => wipe σ2 vs = wipe σ vs ∧ tYes σ2 H2 fun b H3 =>
        if b = true then te σ2 H3 fun y H4 => ∃ acc, H4 E = some (.lst acc) ∧ acc.length < sizeLine ∧ Nx (upd H4 E (.lst (acc ++ [y]))) else Nx H3) := by
  have nb := box_nb hB hE
  have na := box_ap hB hE
  refine lc_range (lo := 0) (n := m) (fun i H' => ∃ r : Rwv, r.length = i ∧ H' E = some (.lst (vis r)) ∧ ExX b H1 H' ∧ Box K H' a b ns) ⟨[], rfl, upd_same, ExX.refl.ex (Ex.new hE), hB.ex (Ex.new hE)⟩ ?_ ?_
  · rintro i H2 hi ⟨r, hrl, hr2, e2, hB2⟩
    rw [Int.zero_add]
    refine ⟨hw _, hs i H2 _ hB2 fun v H3 e3 hB3 => ?_⟩
    refine ⟨vis r, e3 _ _ (Ne.symm nb) hr2, by rw [vis_len, hrl]; exact szK (by omega), r ++ [v], by rw [List.length_append, hrl]; rfl, ?_, ?_, hB3.exx na nb ExX.refl.set⟩
    · rw [upd_same]
      simp [vis]
    · exact exX_mut (e2.trans e3) hE
  · rintro H2 ⟨r, hrl, hr2, e2, hB2⟩
    exact q r H2 hrl hr2 e2 hB2
def spLRows (K : Fg) : Sp := fun vs H Q _ => ∃ (a b : Addr) (ns : List Int) (n : Nat), vs = [.ref a, .ref b, .int (n : Int), .int 12] ∧ Box K H a b ns ∧ 1 ≤ n ∧ n ≤ 8 ∧
  ∀ l us rs H', H l = none → l ≠ b → ExX b H H' → Box K H' a b ns → H' l = some (.lst us) → All2 (VR K H') us rs → RowsOk n rs → rs.length ≤ 12 → Q (.ref l) H'
theorem rows_snoc {n : Nat} {rs : List Rwv} {r : Rwv} (h : RowsOk n rs) (hr : RowOk n r) (hk : ∀ q ∈ rs, q.key < r.key) : RowsOk n (rs ++ [r]) := by
  refine ⟨fun q hq => (List.mem_append.mp hq).elim (h.all q) fun z => by rw [List.mem_singleton.mp z]; exact hr, ?_⟩
  rw [List.map_append, List.pairwise_append]
  refine ⟨h.ord, by simp, fun x hx y hy => ?_⟩
  obtain ⟨q, hq, rfl⟩ := List.mem_map.mp hx
  rw [List.map_cons, List.map_nil, List.mem_singleton] at hy
  rw [hy]
  exact hk q hq
theorem vrs_exN {K : Fg} {H H' : Hp} {us : List V} {rs : List Rwv} (e : ExN H H') (h : All2 (VR K H) us rs) : All2 (VR K H') us rs := vrs_ex e h
theorem abs_nn (v : Int) : 0 ≤ (if v < 0 then -v else v) := by split <;> omega
theorem ok__law_rows {w : World} {K : Fg} {mg : Str → Option Value} {base : Heap} (T : Top K mg) (D__law_take : Df PR w K mg base 1 "_law_take" [] (spTake K)) (D__law_number : Df PR w K mg base 2 "_law_number" [] (spNum K)) : FnA PR w K mg base 3 (He.ga K "_law_rows") [] ((spLRows K)) := by
  obtain ⟨_, fd, F⟩ := T.f__law_rows
  refine fna_d0 F sc__law_rows (fun vs H Q E h => ?_) (fun _ _ _ _ _ _ us hl => match us, hl with | [_, _, _, _], _ => rfl) (fun cdv A outer s H vs Q E hr h => ?_)
  · obtain ⟨a, b, ns, n, rfl, hB, hn, hn8, hQ⟩ := h; rfl
  obtain ⟨a, b, ns, n, rfl, hB, hn, hn8, hQ⟩ := h
  refine ⟨_, (pss_cons (ps_set (i := 4) sc__law_rows.nd rfl (Or.inl rfl) (pe_df D__law_take (hr.mono (by decide)) (by rfl) passLA (pa_cons (pv 0) (pa_cons (pv 1) (pa_cons (pe_op op_add (pv 3) pe_int) pa_nil)))))
    (pss_cut (ps_if (pt_cmpR op_gt (pv 4) (pv 3) (nomark _)) (pss_one (ps_set (i := 4) sc__law_rows.nd rfl (Or.inl rfl) (pe_ix ix_list (pe_lst (pa_cons pe_int (pa_cons pe_int (pa_cons pe_int (pa_cons (pv 3) (pa_cons (pv 3) pa_nil)))))) (pe_op op_sub (pe_op op_sub (pv 4) (pv 3)) pe_int) (fun _ _ => rfl)))) pss_nil)
    (pss_cons (ps_set (i := 5) sc__law_rows.nd rfl (Or.inl rfl) (pe_df D__law_number (hr.mono (by decide)) (by rfl) passLA (pa_cons (pv 0) (pa_cons (pv 1) pa_nil))))
    (pss_cons (ps_set (i := 6) sc__law_rows.nd rfl (Or.inl rfl) (pe_lst pa_nil))
    (pss_cons (ps_for poOf rfl (pi_range1 rfl T.b_range (pa_cons (pv 4) pa_nil)) (pg_name (i := 7) sc__law_rows.nd rfl (Or.inl rfl)) (pss_cons (ps_expr (pe_bm PySem.F.plainAttrs_list PySem.F.slot_list_append PySem.F.type_list_append mt_append (pv 6) (pa_cons (pe_callTy call_tuple_of (by rfl) T.b_tuple (by decide +kernel) (pa_cons (pe_op op_cat (pe_lst (pa_cons (pv 5) pa_nil)) (pe_lc (own := [("c", 8)]) (g := gName 8) (tt := tYes) rfl sc__law_rows.nd (pi_range1 rfl T.b_range (pa_cons (pe_op op_sub (pv 2) pe_int) pa_nil)) (blkOk_by (own := [("c", 8)]) (N := ["script", "box", "width", "most", "many", "key", "rows", "k", "c"]) (sc := defScope s__law_rows) (by decide +kernel)) (fun _ _ _ _ _ => (pg_name (i := 8) sc__law_rows.nd rfl (Or.inl rfl))) (fun _ _ _ _ _ => pts_nil) (fun _ _ _ _ _ => (pe_df D__law_number (hr.mono (by decide)) (by rfl) passLA (pa_cons (pv 0) (pa_cons (pv 1) pa_nil)))))) pa_nil)) pa_nil)))
    (pss_one (ps_set (i := 5) sc__law_rows.nd rfl (Or.inl rfl) (pe_op op_add (pe_op op_add (pv 5) pe_int) (pe_callB call_abs (by rfl) T.b_abs (by decide +kernel) (pa_cons (pe_df D__law_number (hr.mono (by decide)) (by rfl) passLA (pa_cons (pv 0) (pa_cons (pv 1) pa_nil))) pa_nil)))))))
    (pss_one (ps_ret (pv 6)))))))), ?_⟩
  refine ⟨_, rfl, _, rfl, _, rfl, _, _, rfl, rfl, a, b, ns, 18, rfl, hB, by decide, by decide, fun v H1 v0 v1 e1 hB1 => ?_⟩
  refine ⟨fun σ' H' => ∃ m : Int, σ' = [some (.ref a), some (.ref b), some (.int (n : Int)), some (.int 12), some (.int m), none, none, none, none] ∧ 0 ≤ m ∧ m ≤ 12 ∧ ExX b H H' ∧ Box K H' a b ns, ?_, ?_⟩
  · refine ⟨_, rfl, _, rfl, _, _, rfl, rfl, _, rfl, ?_⟩
    refine ite2 (fun h => ?_) fun h => ⟨v, rfl, v0, ?_, e1, hB1⟩
    · have hv : 12 < v := of_decide_eq_true h
      refine ⟨_, rfl, _, rfl, by rw [sizeLine_eq]; decide, fun p hp => ?_⟩
      obtain ⟨y, hy, hm⟩ := list_at (xs := [.int 0, .int 1, .int 2, .int 12, .int 12]) (v := v - 12 - 1) (by omega) (by show v - 12 - 1 < 5; omega)
      refine ⟨_, rfl, _, rfl, _, _, rfl, rfl, _, _, rfl, rfl, _, _, _, _, rfl, rfl, sq_of upd_same, atI_int (by omega) hy, ?_⟩
      have hi : ∃ i : Int, y = .int i ∧ 0 ≤ i ∧ i ≤ 12 := by
        simp only [List.mem_cons, List.not_mem_nil, or_false] at hm
        rcases hm with h | h | h | h | h <;> exact ⟨_, h, by decide, by decide⟩
      obtain ⟨i, rfl, i0, i1⟩ := hi
      exact ⟨i, rfl, i0, i1, e1.ex (Ex.new hp), hB1.ex (Ex.new hp)⟩
    · have : ¬ 12 < v := fun z => h (decide_eq_true z)
      omega
  rintro σ' H2 ⟨m, rfl, m0, m1, e2, hB2⟩
  refine ⟨_, rfl, _, rfl, a, b, ns, rfl, hB2, fun key H3 e3 hB3 => ?_⟩
  refine ⟨Nat.zero_le _, fun D hD => ?_⟩
  have nbD := box_nb hB3 hD
  have naD := box_ap hB3 hD
  have e23 := e2.trans e3
  have hDH := exX_back e23 (Ne.symm nbD) hD
  refine ⟨_, rfl, _, rfl, by omega, by omega, ?_⟩
  refine for_range (lo := 0) (n := m.toNat) (fun i σ H' => ∃ us rs key m1 m2, σ = [some (.ref a), some (.ref b), some (.int (n : Int)), some (.int 12), some (.int m), some (.int key), some (.ref D), m1, m2] ∧ H' D = some (.lst us) ∧ All2 (VR K H') us rs ∧ RowsOk n rs ∧ rs.length = i ∧ (∀ r ∈ rs, r.key < key) ∧ ExX b H H' ∧ Box K H' a b ns)
    ⟨[], [], key, _, _, rfl, upd_same, .nil, ⟨fun _ h => by simp at h, .nil⟩, rfl, fun _ h => by simp at h, e23.ex (Ex.new hD), hB3.ex (Ex.new hD)⟩ ?_ ?_
  · rintro i σ H' hi ⟨us, rs, key, m1, m2, rfl, hD', hus, okr, hrl, hkey, e, hB'⟩
    have lu := hus.len
    refine ⟨_, rfl, .inl ⟨rfl, _, sq_of hD'⟩, ?_⟩
    refine ⟨_, rfl, sz1, fun p hp => ?_⟩
    have g1 := Ex.new (o := .lst [.int key]) hp
    have hB1' := hB'.ex g1
    refine ⟨_, rfl, _, _, rfl, rfl, _, rfl, by omega, by omega, fun E hE => ?_⟩
    have nbp := box_nb hB' hp
    have hpE : p ≠ E := fun z => by rw [← z, upd_same] at hE; cases hE
    refine lc_nums hB1' hE (by omega) (fun _ => rfl) (fun i2 H4 Q' hB4 q => ⟨_, rfl, _, rfl, a, b, ns, rfl, hB4, fun v H5 e5 hB5 => q v H5 e5 hB5⟩) fun r H4 hrl4 hr4 e4 hB4 => ?_
    have hp4 := e4 _ _ (Ne.symm nbp) upd_same
    refine ⟨p, E, _, _, rfl, rfl, hp4, hr4, by rw [vis_len, hrl4]; exact Nat.le_of_lt (szK (by show 1 + _ ≤ 100000; omega)), fun q hq => ?_⟩
    refine ⟨q, _, rfl, .inl ⟨sq_of upd_same, fun t ht => ?_⟩⟩
    have g2 := (Ex.new (o := .lst ([.int key] ++ vis r)) hq).trans (Ex.new (o := .tup ([.int key] ++ vis r)) ht)
    have ht5 : upd (upd H4 q (.lst ([.int key] ++ vis r))) t (.tup ([.int key] ++ vis r)) t = some (.tup ([.int key] ++ vis r)) := upd_same
    generalize upd (upd H4 q (.lst ([.int key] ++ vis r))) t (.tup ([.int key] ++ vis r)) = H5 at g2 ht5
    have eD5 : ExN H' H5 := ((ExN.of g1).trans (hB1'.exn e4)).trans (ExN.of g2)
    have hD5 : H5 D = some (.lst us) := g2 _ _ (e4 _ _ (Ne.symm nbD) (g1 _ _ hD'))
    refine ⟨D, us, _, rfl, rfl, hD5, szK (by omega), ?_⟩
    have eN := eD5.trans (ExN.list (ys := us ++ [.ref t]) hD5)
    have hB5 : Box K (upd H5 D (.lst (us ++ [.ref t]))) a b ns := (hB4.ex g2).exx naD nbD ExX.refl.set
    have e5 : ExX b H (upd H5 D (.lst (us ++ [.ref t]))) := exX_mut (((e.ex g1).trans e4).ex g2) hDH
    have hus5 : All2 (VR K (upd H5 D (.lst (us ++ [.ref t])))) (us ++ [.ref t]) (rs ++ [key :: r]) := by
      refine (vrs_exN eN hus).app (.cons ⟨t, rfl, st_of ?_⟩ .nil)
      rw [upd_ne (fun z => by rw [z, hD5] at ht5; cases ht5)]
      exact ht5
    have hD6 : upd H5 D (.lst (us ++ [.ref t])) D = some (.lst (us ++ [.ref t])) := upd_same
    generalize upd H5 D (.lst (us ++ [.ref t])) = H6 at hB5 e5 hus5 hD6
    have okr2 : RowsOk n (rs ++ [key :: r]) := rows_snoc okr (by show r.length + 1 = n; omega) fun q hq => hkey q hq
    refine ⟨_, rfl, _, _, rfl, rfl, _, rfl, _, rfl, a, b, ns, rfl, hB5, fun v H7 e7 hB7 => ?_⟩
    refine ⟨_, rfl, _, _, rfl, rfl, ?_⟩
    have av := abs_nn v
    refine ⟨us ++ [.ref t], rs ++ [key :: r], _, _, _, rfl, e7 _ _ (Ne.symm nbD) hD6, vrs_exN (hB5.exn e7) hus5, okr2, by rw [List.length_append, hrl]; rfl, fun q hq => ?_, e5.trans e7, hB7⟩
    rcases List.mem_append.mp hq with z | z
    · have := hkey q z
      omega
    · rw [List.mem_singleton.mp z]
      show key < _
      omega
  · rintro σ H' ⟨us, rs, key, m1, m2, rfl, hD', hus, okr, hrl, hkey, e, hB'⟩
    exact ⟨_, rfl, hQ D us rs H' hDH (Ne.symm nbD) e hB' hD' hus okr (by omega)⟩

end Kx

end

section
set_option Elab.async false
set_option linter.all false
set_option maxRecDepth 100000
set_option pp.maxSteps 400
set_option pp.deepTerms false
set_option maxHeartbeats 4000000
namespace Kx
open PySem PySem.Spec PyProof.Rows L2 Evl Pl
/-! ### the table that is made from it -/
def spLTarget (K : Fg) : Sp := fun vs H Q _ => ∃ (a b c : Addr) (ns : List Int) (n : Nat) (us0 : List V) (rs : List Rwv), vs = [.ref a, .ref b, .ref c, .int (n : Int), .int 12] ∧ Box K H a b ns ∧ c ≠ b ∧ H c = some (.lst us0) ∧ All2 (VR K H) us0 rs ∧ RowsOk n rs ∧ rs.length ≤ 12 ∧ 1 ≤ n ∧ n ≤ 8 ∧
  ∀ l us ts H', H l = none → l ≠ b → ExX b H H' → Box K H' a b ns → H' l = some (.lst us) → All2 (VR K H') us ts → RowsOk n ts → ts.length ≤ 12 → Q (.ref l) H'
/-- what stays while the target is made -/
structure TgI (K : Fg) (H H' : Hp) (a b c D : Addr) (ns : List Int) (us0 : List V) (rs : List Rwv) (n k : Nat) (edge : Int) : Prop where
  e : ExX b H H'
  box : Box K H' a b ns
  hc : H' c = some (.lst us0)
  rv : All2 (VR K H') us0 rs
  lst : ∃ us ts, H' D = some (.lst us) ∧ All2 (VR K H') us ts ∧ RowsOk n ts ∧ (∀ r ∈ ts, r.key ≤ edge) ∧ ts.length + (rs.length - k) ≤ 12
  lo : ∀ r, rs[k]? = some r → edge < r.key
theorem TgI.stay {K : Fg} {H H1 H2 : Hp} {a b c D : Addr} {ns : List Int} {us0 : List V} {rs : List Rwv} {n k : Nat} {edge : Int} (t : TgI K H H1 a b c D ns us0 rs n k edge) (e : ExX b H1 H2) (hB : Box K H2 a b ns) (ncb : c ≠ b) (nDb : D ≠ b) : TgI K H H2 a b c D ns us0 rs n k edge := by
  obtain ⟨us, ts, hD, hv, ok, hk, hl⟩ := t.lst
  have en := t.box.exn e
  exact ⟨t.e.trans e, hB, e _ _ ncb t.hc, vrs_exN en t.rv, ⟨us, ts, e _ _ nDb hD, vrs_exN en hv, ok, hk, hl⟩, t.lo⟩
theorem TgI.add {K : Fg} {H H1 : Hp} {a b c D t : Addr} {ns : List Int} {us us0 : List V} {rs ts : List Rwv} {r : Rwv} {n k k' : Nat} {edge : Int} (T : TgI K H H1 a b c D ns us0 rs n k edge) (hDH : H D = none) (ncD : c ≠ D) (nbD : b ≠ D) (naD : a ≠ D ∨ ∀ H, SqL K H a (vis ns))
    (hD : H1 D = some (.lst us)) (hus : All2 (VR K H1) us ts) (okt : RowsOk n ts) (hke : ∀ q ∈ ts, q.key ≤ edge) (ht : SqT K H1 t (vis r)) (hl : ts.length + 1 + (rs.length - k') ≤ 12) (hr : r.length = n) (hk : edge < r.key) (hlo : ∀ q, rs[k']? = some q → r.key < q.key) :
    TgI K H (upd H1 D (.lst (us ++ [.ref t]))) a b c D ns us0 rs n k' r.key := by
  have en := ExN.list (ys := us ++ [.ref t]) hD
  refine ⟨exX_mut T.e hDH, T.box.exx naD nbD ExX.refl.set, ?_, vrs_exN en T.rv, ⟨us ++ [.ref t], ts ++ [r], upd_same, (vrs_exN en hus).app (.cons ⟨t, rfl, exn_t en ht⟩ .nil), rows_snoc okt hr fun q hq => ?_, fun q hq => ?_, ?_⟩, hlo⟩
  · rw [upd_ne ncD]
    exact T.hc
  · have := hke q hq
    omega
  · rcases List.mem_append.mp hq with z | z
    · have := hke q z
      omega
    · rw [List.mem_singleton.mp z]
      omega
  · rw [List.length_append]
    exact hl
theorem TgI.pass {K : Fg} {H H1 : Hp} {a b c D : Addr} {ns : List Int} {us0 : List V} {rs : List Rwv} {n k : Nat} {edge : Int} (t : TgI K H H1 a b c D ns us0 rs n k edge) {r : Rwv} (hr : rs[k]? = some r) (ok : RowsOk n rs) : TgI K H H1 a b c D ns us0 rs n (k + 1) r.key := by
  obtain ⟨us, ts, hD, hv, okt, hk, hl⟩ := t.lst
  have h1 := t.lo r hr
  have hlt := (List.getElem?_eq_some_iff.mp hr).1
  refine ⟨t.e, t.box, t.hc, t.rv, ⟨us, ts, hD, hv, okt, fun q hq => ?_, by omega⟩, fun q hq => ?_⟩
  · have := hk q hq
    omega
  · exact pw_get ok.ord (i := k) (j := k + 1) (by rw [List.getElem?_map, hr]; rfl) (by rw [List.getElem?_map, hq]; rfl) (by omega)
theorem TgI.out {K : Fg} {H H1 : Hp} {a b c D : Addr} {ns : List Int} {us0 : List V} {rs : List Rwv} {n k : Nat} {edge : Int} (t : TgI K H H1 a b c D ns us0 rs n k edge) (hk : rs.length ≤ k) : TgI K H H1 a b c D ns us0 rs n (k + 1) edge := by
  obtain ⟨us, ts, hD, hv, okt, hke, hl⟩ := t.lst
  refine ⟨t.e, t.box, t.hc, t.rv, ⟨us, ts, hD, hv, okt, hke, by omega⟩, fun q hq => ?_⟩
  have := (List.getElem?_eq_some_iff.mp hq).1
  omega
theorem TgI.own {K : Fg} {H H1 : Hp} {a b c D R : Addr} {ns : List Int} {us0 xs ys : List V} {rs : List Rwv} {n k : Nat} {edge : Int} (t : TgI K H H1 a b c D ns us0 rs n k edge) (hR : H R = none) (h : H1 R = some (.lst xs)) (nc : c ≠ R) (nD : D ≠ R) (nb : b ≠ R) (na : a ≠ R ∨ ∀ H, SqL K H a (vis ns)) :
    TgI K H (upd H1 R (.lst ys)) a b c D ns us0 rs n k edge := by
  obtain ⟨us, ts, hD, hv, okt, hke, hl⟩ := t.lst
  have en := ExN.list (ys := ys) h
  exact ⟨exX_mut t.e hR, t.box.exx na nb ExX.refl.set, by rw [upd_ne nc]; exact t.hc, vrs_exN en t.rv, ⟨us, ts, by rw [upd_ne nD]; exact hD, vrs_exN en hv, okt, hke, hl⟩, t.lo⟩
theorem TgI.ex {K : Fg} {H H1 H2 : Hp} {a b c D : Addr} {ns : List Int} {us0 : List V} {rs : List Rwv} {n k : Nat} {edge : Int} (t : TgI K H H1 a b c D ns us0 rs n k edge) (e : Ex H1 H2) : TgI K H H2 a b c D ns us0 rs n k edge := by
  obtain ⟨us, ts, hD, hv, okt, hke, hl⟩ := t.lst
  exact ⟨t.e.ex e, t.box.ex e, e _ _ t.hc, vrs_exN (ExN.of e) t.rv, ⟨us, ts, e _ _ hD, vrs_exN (ExN.of e) hv, okt, hke, hl⟩, t.lo⟩
/-- the row that is worked at -/
structure RwI (K : Fg) (H H1 : Hp) (a b c D R : Addr) (ns : List Int) (us0 : List V) (rs : List Rwv) (n k : Nat) (edge : Int) (r : Rwv) (key : Int) : Prop where
  t : TgI K H H1 a b c D ns us0 rs n k edge
  hR : H1 R = some (.lst (vis r))
  len : r.length = n
  key : r.key = key
  fr : H R = none
  nc : c ≠ R
  nD : D ≠ R
  nb : b ≠ R
  na : a ≠ R ∨ ∀ H, SqL K H a (vis ns)
theorem RwI.stay {K : Fg} {H H1 H2 : Hp} {a b c D R : Addr} {ns : List Int} {us0 : List V} {rs : List Rwv} {n k : Nat} {edge key : Int} {r : Rwv} (w : RwI K H H1 a b c D R ns us0 rs n k edge r key) (e : ExX b H1 H2) (hB : Box K H2 a b ns) (ncb : c ≠ b) (nDb : D ≠ b) : RwI K H H2 a b c D R ns us0 rs n k edge r key :=
  ⟨w.t.stay e hB ncb nDb, e _ _ (Ne.symm w.nb) w.hR, w.len, w.key, w.fr, w.nc, w.nD, w.nb, w.na⟩
theorem vis_set (r : Rwv) (j : Nat) (v : Int) : (vis r).set j (.int v) = vis (r.set j v) := by
  unfold vis
  rw [List.map_set]
theorem key_set {r : Rwv} {j : Nat} {v : Int} (h : 1 ≤ j) : Rwv.key (r.set j v) = r.key := by
  cases r with
  | nil => rfl
  | cons x l =>
    cases j with
    | zero => omega
    | succ j => rfl
theorem ok__law_target {w : World} {K : Fg} {mg : Str → Option Value} {base : Heap} (T : Top K mg) (D__law_take : Df PR w K mg base 1 "_law_take" [] (spTake K)) (D__law_number : Df PR w K mg base 2 "_law_number" [] (spNum K)) : FnA PR w K mg base 4 (He.ga K "_law_target") [] ((spLTarget K)) := by
  obtain ⟨_, fd, F⟩ := T.f__law_target
  refine fna_d0 F sc__law_target (fun vs H Q E h => ?_) (fun _ _ _ _ _ _ us hl => match us, hl with | [_, _, _, _, _], _ => rfl) (fun cdv A outer s H vs Q E hr h => ?_)
  · obtain ⟨a, b, c, ns, n, us0, rs, rfl, hB, ncb, hc, hrs, okrs, hz, hn, hn8, hQ⟩ := h; rfl
  obtain ⟨a, b, c, ns, n, us0, rs, rfl, hB, ncb, hc, hrs, okrs, hz, hn, hn8, hQ⟩ := h
  refine ⟨_, (pss_cons (ps_set (i := 5) sc__law_target.nd rfl (Or.inl rfl) (pe_df D__law_take (hr.mono (by decide)) (by rfl) passLA (pa_cons (pv 0) (pa_cons (pv 1) (pa_cons pe_int pa_nil)))))
    (pss_cons (ps_if (pt_cmpR op_eq (pv 5) pe_int (nomark _)) (pss_one (ps_ret (pe_callTy call_list_of (by rfl) T.b_list (by decide +kernel) (pa_cons (pv 2) pa_nil)))) pss_nil)
    (pss_cons (ps_set (i := 6) sc__law_target.nd rfl (Or.inl rfl) (pe_lst pa_nil))
    (pss_cons (ps_set (i := 7) sc__law_target.nd rfl (Or.inl rfl) (pe_df D__law_number (hr.mono (by decide)) (by rfl) passLA (pa_cons (pv 0) (pa_cons (pv 1) pa_nil))))
    (pss_cut (ps_if (pt_truth (pv 2) (by intro _; rfl)) (pss_one (ps_set (i := 7) sc__law_target.nd rfl (Or.inl rfl) (pe_callB (call_min2 rfl) (by rfl) T.b_min (by decide +kernel) (pa_cons (pv 7) (pa_cons (pe_op op_sub (pe_op op_sub (pe_ix ix_tup (pe_ix ix_list (pv 2) pe_int (fun _ _ => rfl)) pe_int (fun _ _ => rfl)) pe_int) (pe_df D__law_take (hr.mono (by decide)) (by rfl) passLA (pa_cons (pv 0) (pa_cons (pv 1) (pa_cons pe_int pa_nil))))) pa_nil))))) pss_nil)
    (pss_cons (ps_for poOf rfl (pi_range1 rfl T.b_range (pa_cons (pe_op op_add (pe_callB call_len_seq (by rfl) T.b_len (by decide +kernel) (pa_cons (pv 2) pa_nil)) pe_int) pa_nil)) (pg_name (i := 8) sc__law_target.nd rfl (Or.inl rfl)) (pss_cons (ps_for poOf rfl (pi_range1 rfl T.b_range (pa_cons (pe_ix ix_list (pe_lst (pa_cons pe_int (pa_cons pe_int (pa_cons pe_int (pa_cons pe_int (pa_cons pe_int (pa_cons pe_int (pa_cons pe_int (pa_cons (pv 4) pa_nil))))))))) (pe_df D__law_take (hr.mono (by decide)) (by rfl) passLA (pa_cons (pv 0) (pa_cons (pv 1) (pa_cons pe_int pa_nil)))) (fun _ _ => rfl)) pa_nil)) (pg_name (i := 9) sc__law_target.nd rfl (Or.inl rfl)) (pss_cons (ps_set (i := 10) sc__law_target.nd rfl (Or.inl rfl) (pe_op op_add (pe_op op_add (pv 7) pe_int) (pe_callB call_abs (by rfl) T.b_abs (by decide +kernel) (pa_cons (pe_df D__law_number (hr.mono (by decide)) (by rfl) passLA (pa_cons (pv 0) (pa_cons (pv 1) pa_nil))) pa_nil))))
    (pss_one (ps_if (PW.pt (pw_and (PW.pt (pw_or (pt_cmpR op_eq (pv 8) (pe_callB call_len_seq (by rfl) T.b_len (by decide +kernel) (pa_cons (pv 2) pa_nil)) (nomark _)) (pw_or1 (pt_cmpR op_lt (pv 10) (pe_ix ix_tup (pe_ix ix_list (pv 2) (pv 8) (fun _ _ => rfl)) pe_int (fun _ _ => rfl)) (nomark _))))) (pw_and1 (pt_cmpR op_lt (pe_op op_sub (pe_op op_add (pe_callB call_len_seq (by rfl) T.b_len (by decide +kernel) (pa_cons (pv 6) pa_nil)) (pe_callB call_len_seq (by rfl) T.b_len (by decide +kernel) (pa_cons (pv 2) pa_nil))) (pv 8)) (pv 4) (nomark _))))) (pss_cons (ps_expr (pe_bm PySem.F.plainAttrs_list PySem.F.slot_list_append PySem.F.type_list_append mt_append (pv 6) (pa_cons (pe_callTy call_tuple_of (by rfl) T.b_tuple (by decide +kernel) (pa_cons (pe_op op_cat (pe_lst (pa_cons (pv 10) pa_nil)) (pe_lc (own := [("c", 14)]) (g := gName 14) (tt := tYes) rfl sc__law_target.nd (pi_range1 rfl T.b_range (pa_cons (pe_op op_sub (pv 3) pe_int) pa_nil)) (blkOk_by (own := [("c", 14)]) (N := ["script", "box", "rows", "width", "room", "mode", "target", "edge", "k", "more", "key", "row", "pick", "column", "c"]) (sc := defScope s__law_target) (by decide +kernel)) (fun _ _ _ _ _ => (pg_name (i := 14) sc__law_target.nd rfl (Or.inl rfl))) (fun _ _ _ _ _ => pts_nil) (fun _ _ _ _ _ => (pe_df D__law_number (hr.mono (by decide)) (by rfl) passLA (pa_cons (pv 0) (pa_cons (pv 1) pa_nil)))))) pa_nil)) pa_nil)))
    (pss_one (ps_set (i := 7) sc__law_target.nd rfl (Or.inl rfl) (pv 10)))) pss_nil))))
    (pss_one (ps_if (pt_cmpR op_lt (pv 8) (pe_callB call_len_seq (by rfl) T.b_len (by decide +kernel) (pa_cons (pv 2) pa_nil)) (nomark _)) (pss_cons (ps_set (i := 11) sc__law_target.nd rfl (Or.inl rfl) (pe_callTy call_list_of (by rfl) T.b_list (by decide +kernel) (pa_cons (pe_ix ix_list (pv 2) (pv 8) (fun _ _ => rfl)) pa_nil)))
    (pss_cons (ps_set (i := 7) sc__law_target.nd rfl (Or.inl rfl) (pe_ix ix_list (pv 11) pe_int (fun _ _ => rfl)))
    (pss_cons (ps_set (i := 12) sc__law_target.nd rfl (Or.inl rfl) (pe_df D__law_take (hr.mono (by decide)) (by rfl) passLA (pa_cons (pv 0) (pa_cons (pv 1) (pa_cons pe_int pa_nil)))))
    (pss_cut (ps_if (PW.pt (pw_and (pt_cmpR op_eq (pv 12) pe_int (nomark _)) (pw_and1 (pt_cmpR op_gt (pv 3) pe_int (nomark _))))) (pss_cons (ps_set (i := 13) sc__law_target.nd rfl (Or.inl rfl) (pe_op op_add pe_int (pe_df D__law_take (hr.mono (by decide)) (by rfl) passLA (pa_cons (pv 0) (pa_cons (pv 1) (pa_cons (pe_op op_sub (pv 3) pe_int) pa_nil))))))
    (pss_one (ps_asg (pe_op op_add (pe_op op_add (pe_ix ix_list (pv 11) (pv 13) (fun _ _ => rfl)) pe_int) (pe_df D__law_take (hr.mono (by decide)) (by rfl) passLA (pa_cons (pv 0) (pa_cons (pv 1) (pa_cons pe_int pa_nil))))) (pg_sub (pv 11) (pv 13) set_list)))) pss_nil)
    (pss_cut (ps_if (pt_cmpR op_eq (pv 12) pe_int (nomark _)) (pss_one (ps_set (i := 11) sc__law_target.nd rfl (Or.inl rfl) (pe_op op_cat (pe_lst (pa_cons (pv 7) pa_nil)) (pe_lc (own := [("c", 14)]) (g := gName 14) (tt := tYes) rfl sc__law_target.nd (pi_range1 rfl T.b_range (pa_cons (pe_op op_sub (pv 3) pe_int) pa_nil)) (blkOk_by (own := [("c", 14)]) (N := ["script", "box", "rows", "width", "room", "mode", "target", "edge", "k", "more", "key", "row", "pick", "column", "c"]) (sc := defScope s__law_target) (by decide +kernel)) (fun _ _ _ _ _ => (pg_name (i := 14) sc__law_target.nd rfl (Or.inl rfl))) (fun _ _ _ _ _ => pts_nil) (fun _ _ _ _ _ => (pe_df D__law_number (hr.mono (by decide)) (by rfl) passLA (pa_cons (pv 0) (pa_cons (pv 1) pa_nil)))))))) pss_nil)
    (pss_one (ps_if (PW.pt (pw_and (PW.pt (pw_or (pt_cmpR op_lt (pv 12) pe_int (nomark _)) (pw_or1 (pt_cmpR op_eq (pv 5) pe_int (nomark _))))) (pw_and1 (pt_cmpR op_ne (pv 5) pe_int (nomark _))))) (pss_one (ps_expr (pe_bm PySem.F.plainAttrs_list PySem.F.slot_list_append PySem.F.type_list_append mt_append (pv 6) (pa_cons (pe_callTy call_tuple_of (by rfl) T.b_tuple (by decide +kernel) (pa_cons (pv 11) pa_nil)) pa_nil)))) pss_nil))))))) pss_nil))))
    (pss_one (ps_ret (pv 6))))))))), ?_⟩
  have lu0 := hrs.len
  refine ⟨_, rfl, _, rfl, a, b, ns, 6, rfl, hB, by decide, by decide, fun mode H1 _ _ e1 hB1 => ?_⟩
  have hc1 := e1 _ _ ncb hc
  have hrs1 := vrs_exN (hB.exn e1) hrs
  refine ⟨_, rfl, rfl, _, rfl, ?_⟩
  refine ite2 (fun _ => ?_) fun _ => ?_
  · refine ⟨_, rfl, c, us0, rfl, .inl (sq_of hc1), fun l hl => ?_⟩
    have g := Ex.new (o := .lst us0) hl
    have nbl := box_nb hB1 hl
    exact hQ l us0 rs _ (exX_back e1 (Ne.symm nbl) hl) (Ne.symm nbl) (e1.ex g) (hB1.ex g) upd_same (vrs_exN (ExN.of g) hrs1) okrs hz
  refine ⟨Nat.zero_le _, fun D hD => ?_⟩
  have nbD := box_nb hB1 hD
  have naD := box_ap hB1 hD
  have hDH := exX_back e1 (Ne.symm nbD) hD
  have ncD : c ≠ D := ne_of_none hc1 hD
  have g1 := Ex.new (o := .lst []) hD
  refine ⟨_, rfl, _, rfl, a, b, ns, rfl, hB1.ex g1, fun edge H2 e2 hB2 => ?_⟩
  have e12 := (e1.ex g1).trans e2
  have T2 : ∀ edge', (∀ r, rs[0]? = some r → edge' < r.key) → ∀ H3, ExX b H2 H3 → Box K H3 a b ns → TgI K H H3 a b c D ns us0 rs n 0 edge' := fun edge' hlo H3 e3 hB3 =>
    ⟨e12.trans e3, hB3, e3 _ _ ncb (e2 _ _ ncb (g1 _ _ hc1)), vrs_exN (((ExN.of g1).trans ((hB1.ex g1).exn e2)).trans (hB2.exn e3)) hrs1, ⟨[], [], e3 _ _ (Ne.symm nbD) (e2 _ _ (Ne.symm nbD) upd_same), .nil, ⟨fun _ h => by simp at h, .nil⟩, fun _ h => by simp at h, by simp; omega⟩, hlo⟩
  refine ⟨fun σ' H' => ∃ edge', σ' = [some (.ref a), some (.ref b), some (.ref c), some (.int (n : Int)), some (.int 12), some (.int mode), some (.ref D), some (.int edge'), none, none, none, none, none, none, none] ∧ TgI K H H' a b c D ns us0 rs n 0 edge', ?_, ?_⟩
  · refine ⟨_, rfl, _, .inl ⟨us0, sq_of (e2 _ _ ncb (g1 _ _ hc1)), rfl⟩, ?_⟩
    by_cases h0 : us0 = []
    · refine ifF (by rw [h0]; rfl) ⟨edge, rfl, T2 edge (fun r hr => ?_) H2 ExX.refl hB2⟩
      rw [h0] at lu0
      rw [List.length_eq_zero_iff.mp lu0.symm] at hr
      cases hr
    · refine ifT (by cases us0 with | nil => exact absurd rfl h0 | cons x y => rfl) ?_
      have hl0 : 0 < rs.length := by
        rw [← lu0]
        exact List.length_pos_iff.mpr h0
      have h1 : rs[0]? = some rs[0] := List.getElem?_eq_getElem hl0
      have hrs2 := vrs_exN ((ExN.of g1).trans ((hB1.ex g1).exn e2)) hrs1
      obtain ⟨u0, hu0, r0, rfl, hr0⟩ := hrs2.get' h1
      refine ⟨_, rfl, _, rfl, _, _, _, _, rfl, rfl, sq_of (e2 _ _ ncb (g1 _ _ hc1)), atI0 hu0, _, _, _, _, rfl, rfl, hr0, atI0 (row0 (okrs.all _ (List.getElem_mem hl0)) hn), _, _, rfl, rfl, ?_⟩
      refine ⟨_, rfl, _, rfl, a, b, ns, 3, rfl, hB2, by decide, by decide, fun v H3 v0 v1 e3 hB3 => ?_⟩
      refine ⟨_, _, rfl, rfl, _, _, rfl, ?_⟩
      refine ⟨_, rfl, T2 _ (fun r hr => ?_) H3 e3 hB3⟩
      rw [h1] at hr
      rw [← Option.some.inj hr]
      split <;> omega
  rintro σ' H3 ⟨edge, rfl, T3⟩
  refine ⟨_, rfl, _, _, rfl, .inl (sq_of T3.hc), _, _, rfl, rfl, _, rfl, by omega, by omega, ?_⟩
  have ej : ((us0.length : Int) + 1).toNat = rs.length + 1 := by omega
  rw [ej]
  refine for_range (lo := 0) (n := rs.length + 1) (fun k σ H' => ∃ edge m8 m9 m10 m11 m12 m13 m14, σ = [some (.ref a), some (.ref b), some (.ref c), some (.int (n : Int)), some (.int 12), some (.int mode), some (.ref D), some (.int edge), m8, m9, m10, m11, m12, m13, m14] ∧ TgI K H H' a b c D ns us0 rs n k edge)
    ⟨edge, _, _, _, _, _, _, _, rfl, T3⟩ ?_ ?_
  · rintro k σ H4 hk ⟨edge, m8, m9, m10, m11, m12, m13, m14, rfl, T4⟩
    refine ⟨_, rfl, by rw [sizeLine_eq]; decide, fun p hp => ?_⟩
    have gp := Ex.new (o := .lst [.int 0, .int 0, .int 0, .int 1, .int 1, .int 2, .int 3, .int 12]) hp
    have nbp := box_nb T4.box hp
    refine ⟨_, rfl, _, rfl, a, b, ns, 8, rfl, T4.box.ex gp, by decide, by decide, fun v H5 v0 v1 e5 hB5 => ?_⟩
    obtain ⟨y, hy, hm⟩ := list_at (xs := [.int 0, .int 0, .int 0, .int 1, .int 1, .int 2, .int 3, .int 12]) v0 (by show v < 8; exact v1)
    have hi : ∃ i : Int, y = .int i ∧ 0 ≤ i ∧ i ≤ 12 := by
      simp only [List.mem_cons, List.not_mem_nil, or_false] at hm
      rcases hm with h | h | h | h | h | h | h | h <;> exact ⟨_, h, by decide, by decide⟩
    obtain ⟨i, rfl, i0, i1⟩ := hi
    refine ⟨_, _, _, _, rfl, rfl, sq_of (e5 _ _ (Ne.symm nbp) upd_same), atI_int v0 hy, i, rfl, by omega, by omega, ?_⟩
    have T5 : TgI K H H5 a b c D ns us0 rs n k edge := T4.stay (ExX.refl.ex gp |>.trans e5) hB5 ncb (Ne.symm nbD)
    refine for_range (lo := 0) (n := i.toNat) (fun _ σ H' => ∃ edge m9 m10 m11 m12 m13 m14, σ = [some (.ref a), some (.ref b), some (.ref c), some (.int (n : Int)), some (.int 12), some (.int mode), some (.ref D), some (.int edge), some (.int (0 + (k : Nat))), m9, m10, m11, m12, m13, m14] ∧ TgI K H H' a b c D ns us0 rs n k edge)
      ⟨edge, _, _, _, _, _, _, rfl, T5⟩ ?_ ?_
    · rintro i2 σ H6 hi2 ⟨edge, m9, m10, m11, m12, m13, m14, rfl, T6⟩
      refine ⟨_, rfl, _, _, rfl, rfl, _, rfl, _, rfl, a, b, ns, rfl, T6.box, fun v H7 e7 hB7 => ?_⟩
      refine ⟨_, rfl, _, _, rfl, rfl, ?_⟩
      have T7 := T6.stay e7 hB7 ncb (Ne.symm nbD)
      have av := abs_nn v
      have hkey : edge < edge + 1 + (if v < 0 then -v else v) := by omega
      dsimp only
      generalize edge + 1 + (if v < 0 then -v else v) = key at hkey ⊢
      refine ⟨_, rfl, _, rfl, _, _, rfl, .inl (sq_of T7.hc), rfl, _, rfl, ?_⟩
      have skip : ∃ edge' m9' m10' m11' m12' m13' m14', ([some (.ref a), some (.ref b), some (.ref c), some (.int (n : Int)), some (.int 12), some (.int mode), some (.ref D), some (.int edge), some (.int (0 + (k : Nat))), some (.int (0 + (i2 : Nat))), some (.int key), m11, m12, m13, m14] : L2.St) = [some (.ref a), some (.ref b), some (.ref c), some (.int (n : Int)), some (.int 12), some (.int mode), some (.ref D), some (.int edge'), some (.int (0 + (k : Nat))), m9', m10', m11', m12', m13', m14'] ∧ TgI K H H7 a b c D ns us0 rs n k edge' := ⟨edge, _, _, _, _, _, _, rfl, T7⟩
      refine (fun (doit : (∀ r, rs[k]? = some r → key < r.key) → _) => ite2 (fun h => iteT (doit fun r hr => ?_)) fun h => ?_) (fun hlt => ?_)
      · have h2 := of_decide_eq_true h
        injection h2 with h2
        have := (List.getElem?_eq_some_iff.mp hr).1
        omega
      · have hkl : k < rs.length := by
          by_cases z : k = rs.length
          · exact absurd (decide_eq_true (by rw [z, lu0, Int.zero_add])) h
          · omega
        have h1 : rs[k]? = some rs[k] := List.getElem?_eq_getElem hkl
        obtain ⟨uk, huk, rk', rfl, hrk⟩ := T7.rv.get' h1
        refine ⟨_, rfl, _, rfl, _, rfl, _, _, _, _, rfl, rfl, sq_of T7.hc, atI_int (by omega) (by rw [Int.zero_add, Int.toNat_natCast]; exact huk), _, _, _, _, rfl, rfl, hrk, atI0 (row0 (okrs.all _ (List.getElem_mem hkl)) hn), _, _, rfl, rfl, _, rfl, ?_⟩
        refine ite2 (fun h3 => doit fun r hr => ?_) fun h3 => iteF skip
        rw [h1] at hr
        rw [← Option.some.inj hr]
        exact of_decide_eq_true h3
      · obtain ⟨us, ts, hD7, hus, okt, hke, hlen⟩ := T7.lst
        have lus := hus.len
        refine ⟨_, rfl, _, _, rfl, .inl (sq_of hD7), _, rfl, _, _, rfl, .inl (sq_of T7.hc), _, _, rfl, rfl, _, rfl, _, _, rfl, rfl, _, rfl, _, _, rfl, rfl, _, rfl, ?_⟩
        refine ite2 (fun h => ?_) fun h => skip
        have hroom : ((us.length : Int) + us0.length - (0 + (k : Nat))) < 12 := of_decide_eq_true h
        refine ⟨_, rfl, .inl ⟨rfl, _, sq_of hD7⟩, ?_⟩
        refine ⟨_, rfl, sz1, fun p1 hp1 => ?_⟩
        have g1' := Ex.new (o := .lst [.int key]) hp1
        have hB8 := T7.box.ex g1'
        refine ⟨_, rfl, _, _, rfl, rfl, _, rfl, by omega, by omega, fun E hE => ?_⟩
        have nbp1 := box_nb T7.box hp1
        refine lc_nums hB8 hE (by omega) (fun _ => rfl) (fun i3 H8 Q' hB8' q => ⟨_, rfl, _, rfl, a, b, ns, rfl, hB8', fun v H9 e9 hB9 => q v H9 e9 hB9⟩) fun r H8 hrl8 hr8 e8 hB8' => ?_
        have hp8 := e8 _ _ (Ne.symm nbp1) upd_same
        refine ⟨p1, E, _, _, rfl, rfl, hp8, hr8, by rw [vis_len, hrl8]; exact Nat.le_of_lt (szK (by show 1 + _ ≤ 100000; omega)), fun q hq => ?_⟩
        refine ⟨q, _, rfl, .inl ⟨sq_of upd_same, fun t ht => ?_⟩⟩
        have g2 := (Ex.new (o := .lst ([.int key] ++ vis r)) hq).trans (Ex.new (o := .tup ([.int key] ++ vis r)) ht)
        have ht9 : upd (upd H8 q (.lst ([.int key] ++ vis r))) t (.tup ([.int key] ++ vis r)) t = some (.tup ([.int key] ++ vis r)) := upd_same
        generalize upd (upd H8 q (.lst ([.int key] ++ vis r))) t (.tup ([.int key] ++ vis r)) = H9 at g2 ht9
        have T9 := T7.stay ((ExX.refl.ex g1').trans e8 |>.ex g2) (hB8'.ex g2) ncb (Ne.symm nbD)
        obtain ⟨us', ts', hD9, hus9, okt9, hke9, hlen9⟩ := T9.lst
        have eus : us' = us := by
          have h9 := g2 _ _ (e8 _ _ (Ne.symm nbD) (g1' _ _ hD7))
          rw [hD9] at h9
          injection h9 with h9
          injection h9
        subst eus
        have lus9 := hus9.len
        refine ⟨D, us', _, rfl, rfl, hD9, szK (by omega), ?_⟩
        refine ⟨_, rfl, key, _, _, _, _, _, _, rfl, ?_⟩
        exact T9.add hDH ncD nbD naD hD9 hus9 okt9 hke9 (r := key :: r) (st_of ht9) (by omega) (by show r.length + 1 = n; omega) hkey hlt
    · rintro σ H6 ⟨edge, m9, m10, m11, m12, m13, m14, rfl, T6⟩
      refine ⟨_, rfl, _, rfl, _, _, rfl, .inl (sq_of T6.hc), _, _, rfl, rfl, _, rfl, ?_⟩
      refine ite2 (fun h => ?_) fun h => ?_
      rotate_left
      · refine ⟨edge, _, _, _, _, _, _, _, rfl, T6.out ?_⟩
        have h2 : ¬ ((0 + (k : Int)) < (us0.length : Int)) := fun z => h (decide_eq_true z)
        omega
      have hkl : k < rs.length := by
        have h2 : (0 + (k : Int)) < (us0.length : Int) := of_decide_eq_true h
        omega
      have h1 : rs[k]? = some rs[k] := List.getElem?_eq_getElem hkl
      generalize rs[k] = rk0 at h1
      have okk := okrs.all rk0 (List.mem_of_getElem? h1)
      obtain ⟨uk, huk, rka, rfl, hrk⟩ := T6.rv.get' h1
      refine ⟨_, rfl, _, rfl, _, _, _, _, rfl, rfl, sq_of T6.hc, atI_int (by omega) (by rw [Int.zero_add, Int.toNat_natCast]; exact huk), rka, _, rfl, .inr hrk, fun R hR => ?_⟩
      have gR := Ex.new (o := .lst (vis rk0)) hR
      have nbR := box_nb T6.box hR
      have hRH := exX_back T6.e (Ne.symm nbR) hR
      obtain ⟨us, ts, hD6, _⟩ := id T6.lst
      have W0 : RwI K H (upd H6 R (.lst (vis rk0))) a b c D R ns us0 rs n k edge rk0 rk0.key := ⟨T6.ex gR, upd_same, okk, rfl, hRH, ne_of_none T6.hc hR, ne_of_none hD6 hR, nbR, box_ap T6.box hR⟩
      refine ⟨_, rfl, _, _, _, _, rfl, rfl, sq_of upd_same, atI0 (row0 okk hn), ?_⟩
      refine ⟨_, rfl, _, rfl, a, b, ns, 4, rfl, W0.t.box, by decide, by decide, fun pick H7 _ _ e7 hB7 => ?_⟩
      have W7 := W0.stay e7 hB7 ncb (Ne.symm nbD)
      refine ⟨fun σ' H' => ∃ r m13', σ' = [some (.ref a), some (.ref b), some (.ref c), some (.int (n : Int)), some (.int 12), some (.int mode), some (.ref D), some (.int rk0.key), some (.int (0 + (k : Nat))), m9, m10, some (.ref R), some (.int pick), m13', m14] ∧ RwI K H H' a b c D R ns us0 rs n k edge r rk0.key, ?_, ?_⟩
      · have skip : ∃ r m13', ([some (.ref a), some (.ref b), some (.ref c), some (.int (n : Int)), some (.int 12), some (.int mode), some (.ref D), some (.int rk0.key), some (.int (0 + (k : Nat))), m9, m10, some (.ref R), some (.int pick), m13, m14] : L2.St) = [some (.ref a), some (.ref b), some (.ref c), some (.int (n : Int)), some (.int 12), some (.int mode), some (.ref D), some (.int rk0.key), some (.int (0 + (k : Nat))), m9, m10, some (.ref R), some (.int pick), m13', m14] ∧ RwI K H H7 a b c D R ns us0 rs n k edge r rk0.key := ⟨rk0, _, rfl, W7⟩
        refine ⟨_, rfl, rfl, _, rfl, ?_⟩
        refine ite2 (fun _ => ?_) fun _ => iteF skip
        refine ⟨_, rfl, _, _, rfl, rfl, _, rfl, ?_⟩
        refine ite2 (fun h3 => ?_) fun _ => skip
        have hn1 : (1 : Int) < n := of_decide_eq_true h3
        refine ⟨_, rfl, _, rfl, _, rfl, _, _, rfl, rfl, a, b, ns, (n : Int) - 1, rfl, hB7, by omega, by omega, fun col H8 c0 c1 e8 hB8 => ?_⟩
        refine ⟨_, _, rfl, rfl, ?_⟩
        have W8 := W7.stay e8 hB8 ncb (Ne.symm nbD)
        have ec : (1 + col : Int) = ((1 + col).toNat : Nat) := by omega
        have hcl : (1 + col).toNat < rk0.length := by rw [show rk0.length = n from okk]; omega
        refine ⟨_, rfl, _, rfl, _, _, _, _, rfl, rfl, sq_of W8.hR, atI_int (by omega) (vis_get (get_getD hcl)), _, _, rfl, rfl, ?_⟩
        refine ⟨_, rfl, _, rfl, a, b, ns, 2, rfl, hB8, by decide, by decide, fun u H9 u0 u1 e9 hB9 => ?_⟩
        refine ⟨_, _, rfl, rfl, ?_⟩
        have W9 := W8.stay e9 hB9 ncb (Ne.symm nbD)
        refine ⟨_, rfl, _, rfl, R, _, _, (1 + col).toNat, rfl, rfl, W9.hR, ?_, ?_⟩
        · unfold ixN
          rw [if_pos (by omega), if_pos (by rw [vis_len]; omega)]
        · refine ⟨rk0.set (1 + col).toNat (rk0.getD (1 + col).toNat 0 + 1 + u), _, rfl, ?_⟩
          exact ⟨W9.t.own W9.fr W9.hR W9.nc W9.nD W9.nb W9.na, by rw [upd_same, ← vis_set], by rw [List.length_set]; exact okk, key_set (by omega), W9.fr, W9.nc, W9.nD, W9.nb, W9.na⟩
      rintro σ' H8 ⟨r8, m13', rfl, W8⟩
      refine ⟨fun σ' H' => ∃ R r, σ' = [some (.ref a), some (.ref b), some (.ref c), some (.int (n : Int)), some (.int 12), some (.int mode), some (.ref D), some (.int rk0.key), some (.int (0 + (k : Nat))), m9, m10, some (.ref R), some (.int pick), m13', m14] ∧ RwI K H H' a b c D R ns us0 rs n k edge r rk0.key, ?_, ?_⟩
      · refine ⟨_, rfl, rfl, _, rfl, ?_⟩
        refine ite2 (fun _ => ?_) fun _ => ⟨R, r8, rfl, W8⟩
        refine ⟨_, rfl, sz1, fun p1 hp1 => ?_⟩
        have g1' := Ex.new (o := .lst [.int rk0.key]) hp1
        have hB9 := W8.t.box.ex g1'
        refine ⟨_, rfl, _, _, rfl, rfl, _, rfl, by omega, by omega, fun E hE => ?_⟩
        have nbp1 := box_nb W8.t.box hp1
        refine lc_nums hB9 hE (by omega) (fun _ => rfl) (fun i3 H9 Q' hB9' q => ⟨_, rfl, _, rfl, a, b, ns, rfl, hB9', fun v H10 e10 hB10 => q v H10 e10 hB10⟩) fun r H9 hrl9 hr9 e9 hB9' => ?_
        have hp9 := e9 _ _ (Ne.symm nbp1) upd_same
        refine ⟨p1, E, _, _, rfl, rfl, hp9, hr9, by rw [vis_len, hrl9]; exact Nat.le_of_lt (szK (by show 1 + _ ≤ 100000; omega)), fun q hq => ?_⟩
        have W9 := (W8.stay (ExX.refl.ex g1' |>.trans e9) hB9' ncb (Ne.symm nbD))
        have g2 := Ex.new (o := .lst ([.int rk0.key] ++ vis r)) hq
        have nbq := box_nb hB9' hq
        obtain ⟨us9, ts9, hD9, _⟩ := id W9.t.lst
        exact ⟨q, rk0.key :: r, rfl, W9.t.ex g2, upd_same, by show r.length + 1 = n; omega, rfl, exX_back W9.t.e (Ne.symm nbq) hq, ne_of_none W9.t.hc hq, ne_of_none hD9 hq, nbq, box_ap hB9' hq⟩
      rintro σ' H9 ⟨R9, r9, rfl, W9⟩
      have skip : ∃ edge' m8 m9' m10' m11' m12' m13'' m14', ([some (.ref a), some (.ref b), some (.ref c), some (.int (n : Int)), some (.int 12), some (.int mode), some (.ref D), some (.int rk0.key), some (.int (0 + (k : Nat))), m9, m10, some (.ref R9), some (.int pick), m13', m14] : L2.St) = [some (.ref a), some (.ref b), some (.ref c), some (.int (n : Int)), some (.int 12), some (.int mode), some (.ref D), some (.int edge'), m8, m9', m10', m11', m12', m13'', m14'] ∧ TgI K H H9 a b c D ns us0 rs n (k + 1) edge' := ⟨rk0.key, _, _, _, _, _, _, _, rfl, W9.t.pass h1 okrs⟩
      refine ⟨_, rfl, _, _, rfl, rfl, _, rfl, ?_⟩
      refine ite2 (fun _ => iteT ?_) fun _ => ⟨_, rfl, rfl, _, rfl, ite2 (fun _ => ?_) fun _ => iteF skip⟩
      all_goals
        refine ⟨_, rfl, rfl, _, rfl, ?_⟩
        refine ite2 (fun _ => ?_) fun _ => skip
        obtain ⟨us9, ts9, hD9, hus9, okt9, hke9, hlen9⟩ := W9.t.lst
        refine ⟨_, rfl, .inl ⟨rfl, _, sq_of hD9⟩, ?_⟩
        refine ⟨_, rfl, R9, _, rfl, .inl ⟨sq_of W9.hR, fun t ht => ?_⟩⟩
        have gt := Ex.new (o := .tup (vis r9)) ht
        have lus9 := hus9.len
        refine ⟨D, us9, _, rfl, rfl, gt _ _ hD9, szK (by omega), ?_⟩
        refine ⟨r9.key, _, _, _, _, _, _, _, by rw [W9.key], ?_⟩
        have hlo := W9.t.lo rk0 h1
        exact (W9.t.ex gt).add hDH ncD nbD naD (gt _ _ hD9) (vrs_exN (ExN.of gt) hus9) okt9 hke9 (r := r9) (st_of upd_same) (by omega) W9.len (by rw [W9.key]; exact hlo) fun q hq => by
          rw [W9.key]
          exact pw_get okrs.ord (i := k) (j := k + 1) (by rw [List.getElem?_map, h1]; rfl) (by rw [List.getElem?_map, hq]; rfl) (by omega)
  · rintro σ H4 ⟨edge, m8, m9, m10, m11, m12, m13, m14, rfl, T4⟩
    obtain ⟨us, ts, hD4, hus, okt, _, hlen⟩ := T4.lst
    exact ⟨_, rfl, hQ D us ts H4 hDH (Ne.symm nbD) T4.e T4.box hD4 hus okt (by omega)⟩

end Kx

end

section
set_option Elab.async false
set_option linter.all false
set_option maxRecDepth 100000
set_option pp.maxSteps 400
set_option pp.deepTerms false
set_option maxHeartbeats 4000000
namespace Kx
open PySem PySem.Spec PyProof.Rows L2 Evl Pl
/-! ### the entries shared out -/
def partE (col : Bool) (own : Int → Nat → Nat) (q : Nat) (e : Ent) : Option Ent := if e.o = asnE col (own e.key) e.o e.n (fun j => j == q) then none else some ⟨e.p, e.o, asnE col (own e.key) e.o e.n fun j => j == q⟩
theorem fresh_any {H H' : Hp} {x : Addr} {o : HO} (hx : H x = none) : ∀ c u, H c = some u → upd H' x o c = H' c := fun c u h => upd_ne (ne_of_none h hx)
theorem ExN.dict {H : Hp} {x : Addr} {kvs : List (Key × V)} {o : HO} (h : H x = some (.dK kvs)) : ExN H (upd H x o) := fun c u hc n => by
  rw [upd_ne fun z => ?_]
  · exact hc
  · rw [z, h] at hc
    rw [← Option.some.inj hc] at n
    rcases n with ⟨_, h⟩ | ⟨_, _, h⟩ <;> cases h
/-- where the parts stand -/
structure PtS (K : Fg) (H : Hp) (a b el P : Addr) (ps : List Addr) (ns : List Int) (ws : List V) (many : Nat) : Prop where
  len : ps.length = many
  nd : ps.Nodup
  fP : H P = none
  fp : ∀ p ∈ ps, H p = none
  pP : ∀ p ∈ ps, p ≠ P
  nb : el ≠ b
  hel : H el = some (.lst ws)
  box : Box K H a b ns
/-- what stands there -/
structure PtI (K : Fg) (H H' : Hp) (a b el P : Addr) (ps : List Addr) (ns : List Int) (ws : List V) (es : List Ent) (L : Nat → List Ent) : Prop where
  e : ExX b H H'
  box : Box K H' a b ns
  hP : H' P = some (.lst (ps.map V.ref))
  hp : ∀ (q : Nat) p, ps[q]? = some p → ∃ us, H' p = some (.lst us) ∧ All2 (VE K H') us (L q)
  hes : All2 (VE K H') ws es
section
variable {K : Fg} {H H1 H2 : Hp} {a b el P x : Addr} {ps : List Addr} {ns : List Int} {ws : List V} {es : List Ent} {L : Nat → List Ent} {many : Nat}
theorem PtI.hel (t : PtI K H H1 a b el P ps ns ws es L) (s : PtS K H a b el P ps ns ws many) : H1 el = some (.lst ws) := t.e _ _ s.nb s.hel
theorem PtI.stay (t : PtI K H H1 a b el P ps ns ws es L) (s : PtS K H a b el P ps ns ws many) (e : ExX b H1 H2) (hB : Box K H2 a b ns) : PtI K H H2 a b el P ps ns ws es L := by
  have n := t.box.exn e
  refine ⟨t.e.trans e, hB, e _ _ (Ne.symm (box_nb s.box s.fP)) t.hP, fun q p hq => ?_, ves_ex n t.hes⟩
  obtain ⟨us, h1, h2⟩ := t.hp q p hq
  exact ⟨us, e _ _ (Ne.symm (box_nb s.box (s.fp p (List.mem_of_getElem? hq)))) h1, ves_ex n h2⟩
theorem PtI.ex (t : PtI K H H1 a b el P ps ns ws es L) (e : Ex H1 H2) : PtI K H H2 a b el P ps ns ws es L := by
  have n := ExN.of e
  refine ⟨t.e.ex e, t.box.ex e, e _ _ t.hP, fun q p hq => ?_, ves_ex n t.hes⟩
  obtain ⟨us, h1, h2⟩ := t.hp q p hq
  exact ⟨us, e _ _ h1, ves_ex n h2⟩
/-- something of the loop's own is written -/
theorem PtI.own {o : HO} (t : PtI K H H1 a b el P ps ns ws es L) (s : PtS K H a b el P ps ns ws many) (hx : H x = none) (xP : x ≠ P) (xp : x ∉ ps) (n : ExN H1 (upd H1 x o)) : PtI K H (upd H1 x o) a b el P ps ns ws es L := by
  refine ⟨exX_mut t.e hx, t.box.exx (box_ap s.box hx) (box_nb s.box hx) ExX.refl.set, by rw [upd_ne (Ne.symm xP)]; exact t.hP, fun q p hq => ?_, ves_ex n t.hes⟩
  obtain ⟨us, h1, h2⟩ := t.hp q p hq
  exact ⟨us, by rw [upd_ne (show p ≠ x from fun z => xp (by rw [← z]; exact List.mem_of_getElem? hq))]; exact h1, ves_ex n h2⟩
/-- one more entry in part k -/
theorem PtI.add {k : Nat} {us : List V} {v : V} {en : Ent} {L' : Nat → List Ent} (t : PtI K H H1 a b el P ps ns ws es L) (s : PtS K H a b el P ps ns ws many) (hk : ps[k]? = some x) (hx : H1 x = some (.lst us)) (hus : All2 (VE K H1) us (L k)) (hv : VE K H1 v en)
    (h1 : L' k = L k ++ [en]) (h2 : ∀ q, q ≠ k → L' q = L q) : PtI K H (upd H1 x (.lst (us ++ [v]))) a b el P ps ns ws es L' := by
  have hm := List.mem_of_getElem? hk
  have n := ExN.list (ys := us ++ [v]) hx
  refine ⟨exX_mut t.e (s.fp x hm), t.box.exx (box_ap s.box (s.fp x hm)) (box_nb s.box (s.fp x hm)) ExX.refl.set, by rw [upd_ne (Ne.symm (s.pP x hm))]; exact t.hP, fun q p hq => ?_, ves_ex n t.hes⟩
  by_cases z : q = k
  · rw [z] at hq ⊢
    rw [hk] at hq
    rw [← Option.some.inj hq, upd_same, h1]
    exact ⟨_, rfl, (ves_ex n hus).app (.cons (hv.ex n) .nil)⟩
  · obtain ⟨us', h3, h4⟩ := t.hp q p hq
    refine ⟨us', ?_, by rw [h2 q z]; exact ves_ex n h4⟩
    rw [upd_ne]
    · exact h3
    · intro e
      rw [e] at hq
      exact z ((List.getElem?_inj (List.getElem?_eq_some_iff.mp hq).1 s.nd).mp (hq.trans hk.symm))
end
/-- the new rows of one entry's parts -/
def NewsOk (K : Fg) (H : Hp) (kvs : List (Key × V)) (many : Nat) (col : Bool) (ow : Nat → Nat) (e : Ent) : Prop := ∀ q : Nat, q < many → (e.o = asnE col ow e.o e.n (fun j => j == q) → valV kvs (.inl (q : Int)) = none) ∧
  (e.o ≠ asnE col ow e.o e.n (fun j => j == q) → ∃ v, valV kvs (.inl (q : Int)) = some v ∧ VO K H v (asnE col ow e.o e.n fun j => j == q))
theorem NewsOk.ex {K : Fg} {H H' : Hp} {kvs : List (Key × V)} {many : Nat} {col : Bool} {ow : Nat → Nat} {e : Ent} (n : ExN H H') (h : NewsOk K H kvs many col ow e) : NewsOk K H' kvs many col ow e := fun q hq => ⟨(h q hq).1, fun z => by
  obtain ⟨v, h1, h2⟩ := (h q hq).2 z
  exact ⟨v, h1, h2.ex n⟩⟩
/-- the columns done so far -/
def sofar (cs : List Nat) (ow : Nat → Nat) (q : Nat) : Nat → Bool := fun c => cs.contains c && ow c == q
/-- .. and what stands in the dict -/
def NewsJ (K : Fg) (H : Hp) (kvs : List (Key × V)) (many : Nat) (r s : Rwv) (cs : List Nat) (ow : Nat → Nat) : Prop := ∀ q : Nat, q < many → (cs.any (fun c => ow c == q) = false → valV kvs (.inl (q : Int)) = none) ∧
  (cs.any (fun c => ow c == q) = true → ∃ v, valV kvs (.inl (q : Int)) = some v ∧ VR K H v (mix r s (sofar cs ow q)))
theorem mix_none {r s : Rwv} {S : Nat → Bool} (h : ∀ c, S c = false) : mix r s S = r := (mix_eq.mpr fun c _ z => by rw [h] at z; cases z).symm
theorem mix_congr {r s : Rwv} {S S' : Nat → Bool} (h : ∀ c, c < r.length → S c = S' c ∨ r.getD c 0 = s.getD c 0) : mix r s S = mix r s S' := by
  refine row_ext (by rw [mix_len, mix_len]) fun c hc => ?_
  rw [mix_len] at hc
  rw [mix_getD hc, mix_getD hc]
  rcases h c hc with e | e
  · rw [e]
  · rw [e, ite_self, ite_self]
theorem mix_set {r s : Rwv} {S S' : Nat → Bool} {c : Nat} (hc : c < r.length) (h1 : S' c = true) (h2 : ∀ d, d ≠ c → S' d = S d) : (mix r s S).set c (s.getD c 0) = mix r s S' := by
  refine row_ext (by rw [List.length_set, mix_len, mix_len]) fun d hd => ?_
  rw [List.length_set, mix_len] at hd
  rw [mix_getD hd]
  by_cases e : d = c
  · subst e
    rw [h1, if_pos rfl, List.getD_eq_getElem?_getD, List.getElem?_set_self (by rw [mix_len]; exact hd)]
    rfl
  · rw [List.getD_eq_getElem?_getD, List.getElem?_set_ne (fun z => e z.symm), ← List.getD_eq_getElem?_getD, mix_getD hd, h2 d e]
theorem news_end {K : Fg} {H : Hp} {kvs : List (Key × V)} {many : Nat} {ow : Nat → Nat} {e : Ent} {r s : Rwv} (ho : e.o = some r) (hn : e.n = some s) (hl : r.length = s.length) (h : NewsJ K H kvs many r s (diffC r s) ow) : NewsOk K H kvs many true ow e := by
  intro q hq
  have hb : both true e.o e.n = some (r, s) := by
    rw [ho, hn]
    rfl
  rw [asnE_some hb, ho]
  have em : mix r s (sofar (diffC r s) ow q) = mix r s fun c => ow c == q := mix_congr fun c hc => by
    unfold sofar
    by_cases z : r.getD c 0 = s.getD c 0
    · exact .inr z
    · refine .inl ?_
      rw [List.contains_iff_mem.mpr ((diffC_mem hl).mpr ⟨hc, z⟩), Bool.true_and]
  constructor
  · intro z
    refine (h q hq).1 ?_
    rw [List.any_eq_false]
    intro c hc z2
    have h3 := (diffC_mem hl).mp hc
    exact h3.2 (mix_eq.mp (Option.some.inj z) c h3.1 z2)
  · intro z
    have ha : (diffC r s).any (fun c => ow c == q) = true := Classical.byContradiction fun h3 => z (by
      congr 1
      refine mix_eq.mpr fun c hc ho => Classical.byContradiction fun h4 => h3 ?_
      exact List.any_eq_true.mpr ⟨c, (diffC_mem hl).mpr ⟨hc, h4⟩, ho⟩)
    obtain ⟨v, h1, h2⟩ := (h q hq).2 ha
    rw [em] at h2
    exact ⟨v, h1, h2⟩
theorem any_same {α : Type} {f g : α → Bool} : ∀ {l : List α}, (∀ d ∈ l, f d = g d) → l.any f = l.any g
  | [], _ => rfl
  | x :: l, h => by rw [List.any_cons, List.any_cons, h x List.mem_cons_self, any_same fun d hd => h d (List.mem_cons_of_mem _ hd)]
theorem news_step {K : Fg} {H : Hp} {kvs : List (Key × V)} {many : Nat} {ow : Nat → Nat} {r s : Rwv} {cs : List Nat} {c k : Nat} {v : V} (hc : c ∉ cs) (hcl : c < r.length) (h : NewsJ K H kvs many r s cs ow) (hv : VR K H v ((mix r s (sofar cs ow k)).set c (s.getD c 0))) :
    NewsJ K H (putK kvs (.inl (k : Int)) v) many r s (cs ++ [c]) fun d => if d = c then k else ow d := by
  intro q hq
  have old : ∀ q, (cs.any fun d => (if d = c then k else ow d) == q) = cs.any fun d => ow d == q := fun q => any_same fun d hd => by
    rw [if_neg (show ¬ d = c from fun z => hc (by rw [← z]; exact hd))]
  have cf : cs.contains c = false := Bool.eq_false_iff.mpr fun z => hc (List.contains_iff_mem.mp z)
  have s1 : ∀ d, d ≠ c → ∀ q, sofar (cs ++ [c]) (fun d => if d = c then k else ow d) q d = sofar cs ow q d := fun d hd q => by
    show ((cs ++ [c]).contains d && ((if d = c then k else ow d) == q)) = (cs.contains d && (ow d == q))
    rw [if_neg hd]
    congr 1
    by_cases z : d ∈ cs
    · rw [List.contains_iff_mem.mpr z, List.contains_iff_mem.mpr (List.mem_append_left _ z)]
    · have z4 : ¬ d ∈ cs ++ [c] := fun z2 => by
        rcases List.mem_append.mp z2 with z3 | z3
        · exact z z3
        · exact hd (List.mem_singleton.mp z3)
      rw [show cs.contains d = false from Bool.eq_false_iff.mpr fun z2 => z (List.contains_iff_mem.mp z2), show (cs ++ [c]).contains d = false from Bool.eq_false_iff.mpr fun z2 => z4 (List.contains_iff_mem.mp z2)]
  have s2 : ∀ q, sofar (cs ++ [c]) (fun d => if d = c then k else ow d) q c = (k == q) := fun q => by
    show ((cs ++ [c]).contains c && ((if c = c then k else ow c) == q)) = (k == q)
    rw [if_pos rfl, List.contains_iff_mem.mpr (List.mem_append_right _ (List.mem_singleton.mpr rfl)), Bool.true_and]
  have s3 : ∀ q, sofar cs ow q c = false := fun q => by
    show (cs.contains c && _) = false
    rw [cf, Bool.false_and]
  have e0 : ((cs ++ [c]).any fun d => (if d = c then k else ow d) == q) = ((cs.any fun d => ow d == q) || (k == q)) := by
    rw [List.any_append, old, List.any_cons, List.any_nil, Bool.or_false, if_pos rfl]
  rw [e0, valV_put]
  by_cases e : q = k
  · subst e
    rw [if_pos rfl]
    refine ⟨fun z => ?_, fun _ => ⟨v, rfl, ?_⟩⟩
    · rw [beq_self_eq_true, Bool.or_true] at z
      cases z
    · rw [mix_set hcl (S' := sofar (cs ++ [c]) (fun d => if d = c then q else ow d) q) (by rw [s2, beq_self_eq_true]) fun d hd => s1 d hd q] at hv
      exact hv
  · have ek : (k == q) = false := beq_eq_false_iff_ne.mpr fun z => e z.symm
    rw [if_neg (fun z => e (by injection z with z; omega)), ek, Bool.or_false]
    refine ⟨(h q hq).1, fun z => ?_⟩
    obtain ⟨v', h1, h2⟩ := (h q hq).2 z
    refine ⟨v', h1, ?_⟩
    rw [mix_congr (S' := sofar cs ow q)]
    · exact h2
    · intro d _
      by_cases z2 : d = c
      · rw [z2, s2, ek, s3]
        exact .inl rfl
      · exact .inl (s1 d z2 q)

end Kx

end

section
set_option Elab.async false
set_option linter.all false
set_option maxRecDepth 100000
set_option pp.maxSteps 400
set_option pp.deepTerms false
set_option maxHeartbeats 4000000
namespace Kx
open PySem PySem.Spec PyProof.Rows L2 Evl Pl
/-! ### the walk of _law_shared_out -/
def ownUp (own : Int → Nat → Nat) (k0 : Int) (ow : Nat → Nat) : Int → Nat → Nat := fun k => if k = k0 then ow else own k
theorem ownUp_eq {own : Int → Nat → Nat} {k0 : Int} {ow : Nat → Nat} : ownUp own k0 ow k0 = ow := if_pos rfl
theorem ownUp_ne {own : Int → Nat → Nat} {k0 k : Int} {ow : Nat → Nat} (h : k ≠ k0) : ownUp own k0 ow k = own k := if_neg h
theorem part_other {col : Bool} {own own' : Int → Nat → Nat} {q : Nat} {f : Ent} (h : own f.key = own' f.key) : partE col own q f = partE col own' q f := by
  unfold partE
  rw [h]
theorem part_at {col : Bool} {own : Int → Nat → Nat} {ow : Nat → Nat} {q : Nat} {e : Ent} (h : own e.key = ow) : partE col own q e = if e.o = asnE col ow e.o e.n (fun j => j == q) then none else some ⟨e.p, e.o, asnE col ow e.o e.n fun j => j == q⟩ := by
  unfold partE
  rw [h]
theorem PtI.same {K : Fg} {H H1 : Hp} {a b el P : Addr} {ps : List Addr} {ns : List Int} {ws : List V} {es : List Ent} {L L' : Nat → List Ent} {many : Nat} (t : PtI K H H1 a b el P ps ns ws es L) (s : PtS K H a b el P ps ns ws many) (h : ∀ q, q < many → L q = L' q) : PtI K H H1 a b el P ps ns ws es L' :=
  ⟨t.e, t.box, t.hP, fun q p hq => by rw [← h q (by have := (List.getElem?_eq_some_iff.mp hq).1; rw [s.len] at this; exact this)]; exact t.hp q p hq, t.hes⟩
theorem ent_ne {n : Nat} {e : Ent} (ok : EntOk n e) : e.o ≠ e.n := fun z => by
  have k := ok.k
  rw [z] at k
  cases hnn : e.n with
  | none => rw [hnn] at k; exact k
  | some r => rw [hnn] at k; exact k.2 rfl
theorem news_other {K : Fg} {H : Hp} {many v : Nat} {col : Bool} {e : Ent} {y : V} (hb : both col e.o e.n = none) (hne : e.o ≠ e.n) (hy : VO K H y e.n) : NewsOk K H (putK [] (.inl (v : Int)) y) many col (fun _ => v) e := by
  intro q hq
  rw [asnE_none hb, valV_put, valV_nil]
  by_cases e : q = v
  · subst e
    rw [beq_self_eq_true, if_pos rfl, if_pos rfl]
    exact ⟨fun z => absurd z hne, fun _ => ⟨y, rfl, hy⟩⟩
  · rw [if_neg (show ¬ ((v == q) = true) from fun z => e (eq_of_beq z).symm), if_neg (show ¬ ((Sum.inl (q : Int) : Key) = Sum.inl (v : Int)) from fun z => e (by injection z with z; omega))]
    exact ⟨fun _ => rfl, fun z => absurd rfl z⟩
theorem both_row {x y : Option Rwv} : both false x y = none := by
  cases x <;> cases y <;> rfl
theorem both_o {col : Bool} {y : Option Rwv} : both col none y = none := rfl
theorem both_n {col : Bool} {x : Option Rwv} : both col x none = none := by cases x <;> rfl
def spShared (K : Fg) : Sp := fun vs H Q _ => ∃ (a b el : Addr) (ns : List Int) (ws : List V) (es : List Ent) (n many : Nat) (s : Str), vs = [.ref a, .ref b, .ref el, .int (many : Int), .str s] ∧ Box K H a b ns ∧ el ≠ b ∧ H el = some (.lst ws) ∧ All2 (VE K H) ws es ∧ (∀ e ∈ es, EntOk n e) ∧ es.length ≤ 24 ∧ (es.map Ent.key).Pairwise (· < ·) ∧
  n ≤ 8 ∧ 1 ≤ many ∧ many ≤ 8 ∧ Good s ∧ ∀ P ps own H', PtS K H a b el P ps ns ws many → (∀ k c, own k c < many) → PtI K H H' a b el P ps ns ws es (fun q => es.filterMap (partE (!decide (ByRow s)) own q)) → Q (.ref P) H'
theorem PtI.new {K : Fg} {H H1 : Hp} {a b el P x : Addr} {ps : List Addr} {ns : List Int} {ws : List V} {es : List Ent} {L : Nat → List Ent} (t : PtI K H H1 a b el P ps ns ws es L) (hx : H1 x = none) : H x = none ∧ x ≠ P ∧ x ∉ ps := by
  refine ⟨exX_back t.e (Ne.symm (box_nb t.box hx)) hx, (fun z => by rw [z, t.hP] at hx; cases hx), fun z => ?_⟩
  obtain ⟨q, hq, e⟩ := List.mem_iff_getElem.mp z
  obtain ⟨us, h1, _⟩ := t.hp q x (by rw [List.getElem?_eq_getElem hq, e])
  rw [hx] at h1
  cases h1
theorem NewsJ.ex {K : Fg} {H H' : Hp} {kvs : List (Key × V)} {many : Nat} {r s : Rwv} {cs : List Nat} {ow : Nat → Nat} (n : ExN H H') (h : NewsJ K H kvs many r s cs ow) : NewsJ K H' kvs many r s cs ow := fun q hq => ⟨(h q hq).1, fun z => by
  obtain ⟨v, h1, a, h2, h3⟩ := (h q hq).2 z
  exact ⟨v, h1, a, h2, exn_t n h3⟩⟩
theorem putK_len {kvs : List (Key × V)} {k : Key} {v : V} : (putK kvs k v).length ≤ kvs.length + 1 := by
  unfold putK
  split
  · rw [List.length_map]
    omega
  · rw [List.length_append]
    exact Nat.le_refl _
theorem news_row {K : Fg} {H : Hp} {kvs : List (Key × V)} {many k : Nat} {r s : Rwv} {cs : List Nat} {ow : Nat → Nat} {xa : Addr} (h : NewsJ K H kvs many r s cs ow) (hk : k < many) (hxa : SqT K H xa (vis r)) : ∃ p, (valV kvs (.inl (k : Int))).getD (.ref xa) = .ref p ∧ SqT K H p (vis (mix r s (sofar cs ow k))) := by
  cases ha : cs.any (fun c => ow c == k) with
  | false =>
    rw [(h k hk).1 ha, mix_none]
    · exact ⟨xa, rfl, hxa⟩
    · intro c
      show (cs.contains c && (ow c == k)) = false
      by_cases z : c ∈ cs
      · rw [Bool.eq_false_iff.mpr (List.any_eq_false.mp ha c z), Bool.and_false]
      · rw [show cs.contains c = false from Bool.eq_false_iff.mpr fun z2 => z (List.contains_iff_mem.mp z2), Bool.false_and]
  | true =>
    obtain ⟨v, h1, p, h2, h3⟩ := (h k hk).2 ha
    rw [h1, h2]
    exact ⟨p, rfl, h3⟩
theorem diff_nd {r s : Rwv} : (diffC r s).Nodup := List.nodup_range.sublist List.filter_sublist
theorem nd_take {l : List Nat} (h : l.Nodup) {i c : Nat} (hc : l[i]? = some c) : c ∉ l.take i := fun z => by
  obtain ⟨j, hj, e⟩ := List.mem_iff_getElem.mp z
  rw [List.length_take] at hj
  rw [List.getElem_take] at e
  have hi := (List.getElem?_eq_some_iff.mp hc).1
  have h1 : l[j]? = some c := by rw [List.getElem?_eq_getElem (by omega), e]
  have := (List.getElem?_inj (by omega) h).mp (h1.trans hc.symm)
  omega
theorem ok__law_shared_out {w : World} {K : Fg} {mg : Str → Option Value} {base : Heap} (T : Top K mg) (D__law_take : Df PR w K mg base 1 "_law_take" [] (spTake K)) (D__law_changed : Df PR w K mg base 1 "_law_changed" [] (spChg K)) : FnA PR w K mg base 2 (He.ga K "_law_shared_out") [] ((spShared K)) := by
  obtain ⟨_, fd, F⟩ := T.f__law_shared_out
  refine fna_d0 F sc__law_shared_out (fun vs H Q E h => ?_) (fun _ _ _ _ _ _ us hl => match us, hl with | [_, _, _, _, _], _ => rfl) (fun cdv A outer s H vs Q E hr h => ?_)
  · obtain ⟨a, b, el, ns, ws, es, n, many, s', rfl, hB, neb, hel, hws, okE, hze, hpw, hn, hm1, hm8, hgood, hQ⟩ := h; rfl
  obtain ⟨a, b, el, ns, ws, es, n, many, s', rfl, hB, neb, hel, hws, okE, hze, hpw, hn, hm1, hm8, hgood, hQ⟩ := h
  refine ⟨_, (pss_cons (ps_setLc (i := 6) (own := [("k", 5)]) (g := gName 5) (tt := tYes) rfl sc__law_shared_out.nd rfl rfl (sw_true rfl rfl rfl (by decide +kernel)) (pi_range1 rfl T.b_range (pa_cons (pv 3) pa_nil)) (blkOk_by (own := [("k", 5)]) (N := ["script", "box", "entries", "many", "rule", "k", "parts", "entry", "news", "c", "row"]) (sc := defScope s__law_shared_out) (by decide +kernel)) (fun _ _ _ _ _ => (pg_name (i := 5) sc__law_shared_out.nd rfl (Or.inl rfl))) (fun _ _ _ _ _ => pts_nil) (fun _ _ _ _ _ => (pe_lst pa_nil)))
    (pss_cons (ps_for poOf rfl (pi_list (pv 2)) (pg_name (i := 7) sc__law_shared_out.nd rfl (Or.inl rfl)) (pss_cons (ps_set (i := 8) sc__law_shared_out.nd rfl (Or.inl rfl) pe_dnewK)
    (pss_cut (ps_if (PW.pt (pw_and (pt_cmpR op_eq (pv 4) pe_str (nomark _)) (pw_and (pt_cmpR op_notN (pe_ix ix_tup (pv 7) pe_int (fun _ _ => rfl)) pe_non (nomark _)) (pw_and1 (pt_cmpR op_notN (pe_ix ix_tup (pv 7) pe_int (fun _ _ => rfl)) pe_non (nomark _)))))) (pss_one (ps_for poOf rfl (pi_list (pe_df D__law_changed (hr.mono (by decide)) (by rfl) passLA (pa_cons (pv 7) pa_nil))) (pg_name (i := 9) sc__law_shared_out.nd rfl (Or.inl rfl)) (pss_cons (ps_set (i := 5) sc__law_shared_out.nd rfl (Or.inl rfl) (pe_df D__law_take (hr.mono (by decide)) (by rfl) passLA (pa_cons (pv 0) (pa_cons (pv 1) (pa_cons (pv 3) pa_nil)))))
    (pss_cons (ps_set (i := 10) sc__law_shared_out.nd rfl (Or.inl rfl) (pe_callTy call_list_of (by rfl) T.b_list (by decide +kernel) (pa_cons (pe_dget2 (hu_of hr) (pv 8) (pv 5) (pe_ix ix_tup (pv 7) pe_int (fun _ _ => rfl)) (by constructor <;> rfl)) pa_nil)))
    (pss_cons (ps_asg (pe_ix ix_tup (pe_ix ix_tup (pv 7) pe_int (fun _ _ => rfl)) (pv 9) (fun _ _ => rfl)) (pg_sub (pv 10) (pv 9) set_list))
    (pss_one (ps_dput (hu_of hr) (pv 8) (pv 5) (pe_callTy call_tuple_of (by rfl) T.b_tuple (by decide +kernel) (pa_cons (pv 10) pa_nil)) rfl))))))) (pss_one (ps_dput (hu_of hr) (pv 8) (pe_df D__law_take (hr.mono (by decide)) (by rfl) passLA (pa_cons (pv 0) (pa_cons (pv 1) (pa_cons (pv 3) pa_nil)))) (pe_ix ix_tup (pv 7) pe_int (fun _ _ => rfl)) rfl)))
    (pss_one (ps_for poOf rfl (pi_range1 rfl T.b_range (pa_cons (pv 3) pa_nil)) (pg_name (i := 5) sc__law_shared_out.nd rfl (Or.inl rfl)) (pss_one (ps_if (pt_cmp (pc_din (hu_of hr) (pv 5) (pv 8))) (pss_one (ps_expr (pe_bm PySem.F.plainAttrs_list PySem.F.slot_list_append PySem.F.type_list_append mt_append (pe_ix ix_list (pv 6) (pv 5) (fun _ _ => rfl)) (pa_cons (pe_tup (pa_cons (pe_ix ix_tup (pv 7) pe_int (fun _ _ => rfl)) (pa_cons (pe_ix ix_tup (pv 7) pe_int (fun _ _ => rfl)) (pa_cons (pe_dget (hu_of hr) (pv 8) (pv 5) (fun _ _ => rfl)) pa_nil)))) pa_nil)))) pss_nil)))))))
    (pss_one (ps_ret (pv 6))))), ?_⟩
  have lws := hws.len
  refine ⟨_, rfl, _, rfl, by omega, by omega, fun P hP => ?_⟩
  rw [Int.toNat_natCast]
  refine lc_range (lo := 0) (n := many) (fun i H' => ∃ ps : List Addr, H' P = some (.lst (ps.map V.ref)) ∧ ps.length = i ∧ Ex H H' ∧ ps.Nodup ∧ ∀ p ∈ ps, H p = none ∧ p ≠ P ∧ H' p = some (.lst [])) ⟨[], upd_same, rfl, Ex.new hP, .nil, fun _ h => by simp at h⟩ ?_ ?_
  · rintro i H1 hi ⟨ps, hP1, hl, e, nd, hps⟩
    refine ⟨rfl, Nat.zero_le _, fun p hp => ?_⟩
    have hpP : p ≠ P := fun z => by rw [← z, hp] at hP1; cases hP1
    have hpn : p ∉ ps := fun z => by
      have := (hps p z).2.2
      rw [hp] at this
      cases this
    refine ⟨ps.map V.ref, by rw [upd_ne (Ne.symm hpP)]; exact hP1, by rw [List.length_map, hl]; exact szK (by omega), ps ++ [p], by rw [upd_same, List.map_append]; rfl, by rw [List.length_append, hl]; rfl, Ex.mut (e.trans (Ex.new hp)) hP, ?_, fun q hq => ?_⟩
    · rw [List.nodup_append]
      exact ⟨nd, by simp, fun x hx y hy z => hpn (by rw [← List.mem_singleton.mp hy, ← z]; exact hx)⟩
    · rcases List.mem_append.mp hq with z | z
      · obtain ⟨h1, h2, h3⟩ := hps q z
        exact ⟨h1, h2, by rw [upd_ne h2, upd_ne (fun e => hpn (by rw [← e]; exact z))]; exact h3⟩
      · rw [List.mem_singleton.mp z]
        exact ⟨fresh_back e hp, hpP, by rw [upd_ne hpP, upd_same]⟩
  rintro H1 ⟨ps, hP1, hl, e1, nd, hps⟩
  have S : PtS K H a b el P ps ns ws many := ⟨hl, nd, hP, fun p hp => (hps p hp).1, fun p hp => (hps p hp).2.1, neb, hel, hB⟩
  refine ⟨_, rfl, el, rfl, ⟨ws, sq_of (e1 _ _ hel)⟩, ?_⟩
  refine for_list (K := K) (a := el) (xs := ws) (fun i σ H' => ∃ own m5 m7 m8 m9 m10, (∀ k c, own k c < many) ∧ σ = [some (.ref a), some (.ref b), some (.ref el), some (.int (many : Int)), some (.str s'), m5, some (.ref P), m7, m8, m9, m10] ∧ PtI K H H' a b el P ps ns ws es (fun q => (es.take i).filterMap (partE (!decide (ByRow s')) own q)))
    ⟨fun _ _ => 0, _, _, _, _, _, fun _ _ => hm1, rfl, ExX.refl.ex e1, hB.ex e1, hP1, fun q p hq => ⟨[], (hps p (List.mem_of_getElem? hq)).2.2, .nil⟩, ves_ex (ExN.of e1) hws⟩ (fun i σ H' _ p => ?_) ?_ ?_
  · obtain ⟨own, m5, m7, m8, m9, m10, _, _, t⟩ := p
    exact sq_of (t.hel S)
  · rintro i z σ H2 hz ⟨own, m5, m7, m8, m9, m10, hown, rfl, t⟩
    obtain ⟨en, hen, hve⟩ := t.hes.get hz
    have hilt := (List.getElem?_eq_some_iff.mp hen).1
    have oke := okE en (List.mem_of_getElem? hen)
    intro Dn hDn
    have f2 := Ex.new (o := .dK []) hDn
    have hDnH := exX_back t.e (Ne.symm (box_nb t.box hDn)) hDn
    have t2 := t.ex f2
    have hve2 := hve.ex (ExN.of f2)
    have hDn2 : upd H2 Dn (.dK []) Dn = some (.dK []) := upd_same
    have nDP : Dn ≠ P := fun z => by rw [z, t.hP] at hDn; cases hDn
    have nDp : Dn ∉ ps := fun z => by
      obtain ⟨q, hq, e⟩ := List.mem_iff_getElem.mp z
      obtain ⟨us, h1, _⟩ := t.hp q Dn (by rw [List.getElem?_eq_getElem hq, e])
      rw [hDn] at h1
      cases h1
    generalize upd H2 Dn (.dK []) = H3 at f2 t2 hve2 hDn2
    obtain ⟨c0, x, y, rfl, hS, hx, hy⟩ := id hve2
    refine ⟨fun σ' H' => ∃ ow kvs m5 m9 m10, (∀ c, ow c < many) ∧ σ' = [some (.ref a), some (.ref b), some (.ref el), some (.int (many : Int)), some (.str s'), m5, some (.ref P), some (.ref c0), some (.ref Dn), m9, m10] ∧ PtI K H H' a b el P ps ns ws es (fun q => (es.take i).filterMap (partE (!decide (ByRow s')) own q)) ∧
      H' Dn = some (.dK kvs) ∧ NewsOk K H' kvs many (!decide (ByRow s')) ow en ∧ VE K H' (.ref c0) en, ?_, ?_⟩
    · refine ⟨_, rfl, rfl, _, rfl, ?_⟩
      refine (fun (doElse : both (!decide (ByRow s')) en.o en.n = none → _) => ite2 (fun h => ?_) fun h => iteF (doElse ?_)) (fun hb => ?_)
      · have hcol : s' = ("column" : Str) := by
          have h2 := of_decide_eq_true h
          injection h2
        have hbr : decide (ByRow s') = false := decide_eq_false fun z => by
          rw [show s' = ("row" : Str) from z] at hcol
          exact absurd hcol (by decide)
        refine ⟨_, rfl, _, _, _, _, rfl, rfl, hS, atI1 rfl, rfl, _, rfl, ?_⟩
        rw [hx.isN]
        cases ho : en.o with
        | none => exact ifF rfl (iteF (doElse (by rw [ho]; exact both_o)))
        | some r =>
        refine ifT rfl ⟨_, rfl, _, _, _, _, rfl, rfl, hS, atI2 rfl, rfl, _, rfl, ?_⟩
        rw [hy.isN]
        cases hnn : en.n with
        | none => exact ifF rfl (doElse (by rw [hnn]; exact both_n))
        | some r2 =>
        clear doElse
        have l1 : ORowOk n en.o := oke.o
        have l2 : ORowOk n en.n := oke.n
        rw [ho] at l1
        rw [hnn] at l2
        have lr : r.length = n := l1
        have lr2 : r2.length = n := l2
        refine ifT rfl ⟨_, rfl, .ref c0, en, r, r2, rfl, hve2, ho, hnn, by omega, by omega, fun l H4 hl e4 hl4 => ⟨l, rfl, ⟨_, sq_of hl4⟩, ?_⟩⟩
        have nlb := box_nb t2.box hl
        have nlD : l ≠ Dn := fun z => by rw [z, hDn2] at hl; cases hl
        have t4 := t2.ex e4
        refine for_list (K := K) (a := l) (xs := (diffC r r2).map fun c => V.int (c : Nat)) (fun j σ H' => ∃ ow kvs m5 m9 m10, (∀ c, ow c < many) ∧ σ = [some (.ref a), some (.ref b), some (.ref el), some (.int (many : Int)), some (.str s'), m5, some (.ref P), some (.ref c0), some (.ref Dn), m9, m10] ∧
          PtI K H H' a b el P ps ns ws es (fun q => (es.take i).filterMap (partE (!decide (ByRow s')) own q)) ∧ H' l = some (.lst ((diffC r r2).map fun c => V.int (c : Nat))) ∧ H' Dn = some (.dK kvs) ∧ kvs.length ≤ j ∧ NewsJ K H' kvs many r r2 ((diffC r r2).take j) ow ∧ VE K H' (.ref c0) en)
          ⟨fun _ => 0, [], _, _, _, fun _ => hm1, rfl, t4, hl4, e4 _ _ hDn2, Nat.le_refl _, fun q hq => ⟨fun _ => rfl, fun z => nomatch z⟩, hve2.ex (ExN.of e4)⟩ (fun j σ H' _ p => ?_) ?_ ?_
        · obtain ⟨ow, kvs, m5, m9, m10, _, _, _, h1, _⟩ := p
          exact sq_of h1
        · rintro j z σ H5 hz ⟨ow, kvs, m5, m9, m10, how, rfl, t5, hl5, hD5, hkl, hnj, hve5⟩
          rw [List.getElem?_map] at hz
          obtain ⟨c, hc, rfl⟩ := Option.map_eq_some_iff.mp hz
          have hjl := (List.getElem?_eq_some_iff.mp hc).1
          have hcm := (diffC_mem (by omega : r.length = r2.length)).mp (List.mem_of_getElem? hc)
          have ldf : (diffC r r2).length ≤ 8 := by
            unfold diffC
            have := List.length_filter_le (fun c => decide (r[c]? ≠ r2[c]?)) (List.range r.length)
            rw [List.length_range] at this
            omega
          refine ⟨_, rfl, _, rfl, _, rfl, a, b, ns, many, rfl, t5.box, by omega, by omega, fun k H6 k0 k1 e6 hB6 => ?_⟩
          obtain ⟨k, rfl⟩ : ∃ k' : Nat, k = k' := ⟨k.toNat, by omega⟩
          have n6 := t5.box.exn e6
          have t6 := t5.stay S e6 hB6
          have hl6 := e6 _ _ (Ne.symm nlb) hl5
          have hD6 := e6 _ _ (Ne.symm (box_nb hB hDnH)) hD5
          have hnj6 := hnj.ex n6
          have hve6 := hve5.ex n6
          obtain ⟨c1, x1, y1, e1', hS6, hx6, hy6⟩ := id hve6
          cases e1'
          rw [ho] at hx6
          rw [hnn] at hy6
          obtain ⟨xa, rfl, hxa⟩ := hx6
          obtain ⟨yb, rfl, hyb⟩ := hy6
          obtain ⟨p, hp, hSp⟩ := news_row hnj6 (by omega : k < many) hxa
          refine ⟨_, rfl, Dn, rfl, .inl ⟨_, .inl hD6⟩, _, rfl, _, rfl, _, _, _, _, rfl, rfl, hS6, atI1 rfl, _, DGet.k (k := Sum.inl (k : Int)) hD6, p, _, by rw [hp], .inr hSp, fun R hR => ?_⟩
          obtain ⟨hRH, nRP, nRp⟩ := t6.new hR
          have nRl : R ≠ l := fun z => by rw [z, hl6] at hR; cases hR
          have nRD : R ≠ Dn := fun z => by rw [z, hD6] at hR; cases hR
          have g7 := Ex.new (o := .lst (vis (mix r r2 (sofar ((diffC r r2).take j) ow k)))) hR
          have hR7 : upd H6 R (.lst (vis (mix r r2 (sofar ((diffC r r2).take j) ow k)))) R = some (.lst (vis (mix r r2 (sofar ((diffC r r2).take j) ow k)))) := upd_same
          have t7 := t6.ex g7
          have hl7 := g7 _ _ hl6
          have hD7 := g7 _ _ hD6
          have hve7 := hve6.ex (ExN.of g7)
          have hnj7 := hnj6.ex (ExN.of g7)
          have hS7 := ex_t g7 hS6
          have hyb7 := ex_t g7 hyb
          generalize upd H6 R (.lst (vis (mix r r2 (sofar ((diffC r r2).take j) ow k)))) = H7 at g7 hR7 t7 hl7 hD7 hve7 hnj7 hS7 hyb7
          refine ⟨_, rfl, _, _, _, _, rfl, rfl, hS7, atI2 rfl, _, rfl, _, _, _, _, rfl, rfl, hyb7, row_atI (by omega), _, rfl, _, rfl, R, _, _, c, rfl, rfl, hR7, ?_, ?_⟩
          · unfold ixN
            rw [if_pos (by omega), if_pos (by rw [vis_len, mix_len]; omega), Int.toNat_natCast]
          rw [vis_set]
          have n8 := ExN.list (ys := vis ((mix r r2 (sofar ((diffC r r2).take j) ow k)).set c (r2.getD c 0))) hR7
          have t8 := t7.own S hRH nRP nRp n8
          have hl8 : upd H7 R (.lst (vis ((mix r r2 (sofar ((diffC r r2).take j) ow k)).set c (r2.getD c 0)))) l = some (.lst ((diffC r r2).map fun c => V.int (c : Nat))) := by rw [upd_ne (Ne.symm nRl)]; exact hl7
          have hD8 : upd H7 R (.lst (vis ((mix r r2 (sofar ((diffC r r2).take j) ow k)).set c (r2.getD c 0)))) Dn = some (.dK kvs) := by rw [upd_ne (Ne.symm nRD)]; exact hD7
          have hR8 : upd H7 R (.lst (vis ((mix r r2 (sofar ((diffC r r2).take j) ow k)).set c (r2.getD c 0)))) R = some (.lst (vis ((mix r r2 (sofar ((diffC r r2).take j) ow k)).set c (r2.getD c 0)))) := upd_same
          have hve8 := hve7.ex n8
          have hnj8 := hnj7.ex n8
          generalize upd H7 R (.lst (vis ((mix r r2 (sofar ((diffC r r2).take j) ow k)).set c (r2.getD c 0)))) = H8 at n8 t8 hl8 hD8 hR8 hve8 hnj8
          refine ⟨_, rfl, R, _, rfl, .inl ⟨sq_of hR8, fun t ht => ?_⟩⟩
          have g9 := Ex.new (o := .tup (vis ((mix r r2 (sofar ((diffC r r2).take j) ow k)).set c (r2.getD c 0)))) ht
          have ht9 : upd H8 t (.tup (vis ((mix r r2 (sofar ((diffC r r2).take j) ow k)).set c (r2.getD c 0)))) t = some (.tup (vis ((mix r r2 (sofar ((diffC r r2).take j) ow k)).set c (r2.getD c 0)))) := upd_same
          generalize upd H8 t (.tup (vis ((mix r r2 (sofar ((diffC r r2).take j) ow k)).set c (r2.getD c 0)))) = H9 at g9 ht9
          have hD9 := g9 _ _ hD8
          refine ⟨_, rfl, _, rfl, Dn, _, rfl, DPut.k (k := Sum.inl (k : Int)) hD9 (szK (by omega)), ?_⟩
          have nd : ExN H9 (upd H9 Dn (.dK (putK kvs (Sum.inl (k : Int)) (.ref t)))) := ExN.dict hD9
          have n9 := (ExN.of g9).trans nd
          have ndt : t ≠ Dn := fun z => by rw [z, hD8] at ht; cases ht
          refine ⟨fun d => if d = c then k else ow d, _, _, _, _, fun d => ?_, rfl, (t8.ex g9).own S hDnH nDP nDp nd, by rw [upd_ne nlD]; exact g9 _ _ hl8, upd_same, Nat.le_trans putK_len (Nat.succ_le_succ hkl), ?_, hve8.ex n9⟩
          · show (if d = c then k else ow d) < many
            split
            · omega
            · exact how d
          · rw [take_snoc hc]
            exact news_step (nd_take diff_nd hc) hcm.1 (hnj8.ex n9) ⟨t, rfl, st_of (by rw [upd_ne ndt]; exact ht9)⟩
        · rintro σ H5 ⟨ow, kvs, m5, m9, m10, how, rfl, t5, hl5, hD5, hkl, hnj, hve5⟩
          rw [List.length_map, List.take_length] at hnj
          have hne := news_end ho hnn (by omega) hnj
          rw [hbr] at t5
          rw [hbr]
          exact ⟨ow, kvs, _, _, _, how, rfl, t5, hD5, hne, hve5⟩
      · have hrow : ByRow s' := by
          rcases hgood with z | z
          · exact z
          · exact absurd (decide_eq_true (by rw [z])) h
        rw [decide_eq_true hrow]
        exact both_row
      · refine ⟨_, rfl, _, _, _, _, rfl, rfl, hS, atI2 rfl, _, rfl, _, rfl, _, rfl, _, rfl, a, b, ns, many, rfl, t2.box, by omega, by omega, fun k H6 k0 k1 e6 hB6 => ?_⟩
        obtain ⟨k, rfl⟩ : ∃ k' : Nat, k = k' := ⟨k.toNat, by omega⟩
        have n6 := t2.box.exn e6
        have t6 := t2.stay S e6 hB6
        have hD6 := e6 _ _ (Ne.symm (box_nb hB hDnH)) hDn2
        refine ⟨Dn, _, rfl, DPut.k (k := Sum.inl (k : Int)) hD6 (szK (Nat.zero_le _)), ?_⟩
        have nd : ExN H6 (upd H6 Dn (.dK (putK [] (Sum.inl (k : Int)) y))) := ExN.dict hD6
        exact ⟨fun _ => k, _, _, _, _, fun _ => (by omega : k < many), rfl, t6.own S hDnH nDP nDp nd, upd_same, news_other hb (ent_ne oke) (hy.ex (n6.trans nd)), hve2.ex (n6.trans nd)⟩
    rintro σ' H4 ⟨ow, kvs, m5, m9, m10, how, rfl, t4, hD4, hnews, hve4⟩
    have hkeys : ∀ q, (es.take i).filterMap (partE (!decide (ByRow s')) own q) = (es.take i).filterMap (partE (!decide (ByRow s')) (ownUp own en.key ow) q) := fun q => fm_congr fun f hf => by
      have hk : f.key ≠ en.key := by
        obtain ⟨j, hj, e⟩ := List.mem_iff_getElem.mp hf
        rw [List.length_take] at hj
        rw [List.getElem_take] at e
        have h1 : es[j]? = some f := by rw [List.getElem?_eq_getElem (by omega), e]
        have := pw_get hpw (i := j) (j := i) (by rw [List.getElem?_map, h1]; rfl) (by rw [List.getElem?_map, hen]; rfl) (by omega)
        omega
      exact part_other (ownUp_ne hk).symm
    have hpe : ∀ q, partE (!decide (ByRow s')) (ownUp own en.key ow) q en = if en.o = asnE (!decide (ByRow s')) ow en.o en.n (fun j => j == q) then none else some ⟨en.p, en.o, asnE (!decide (ByRow s')) ow en.o en.n fun j => j == q⟩ := fun q => part_at ownUp_eq
    have t4' := t4.same S fun q _ => hkeys q
    have hown' : ∀ k c, ownUp own en.key ow k c < many := fun k c => by
      unfold ownUp
      split
      · exact how c
      · exact hown k c
    generalize ownUp own en.key ow = own' at t4' hpe hown'
    refine ⟨_, rfl, _, rfl, by omega, by omega, ?_⟩
    rw [Int.toNat_natCast]
    refine for_range (lo := 0) (n := many) (fun q σ H' => ∃ m5, σ = [some (.ref a), some (.ref b), some (.ref el), some (.int (many : Int)), some (.str s'), m5, some (.ref P), some (.ref c0), some (.ref Dn), m9, m10] ∧ H' Dn = some (.dK kvs) ∧ NewsOk K H' kvs many (!decide (ByRow s')) ow en ∧ VE K H' (.ref c0) en ∧
      PtI K H H' a b el P ps ns ws es (fun q' => if q' < q then (es.take (i + 1)).filterMap (partE (!decide (ByRow s')) own' q') else (es.take i).filterMap (partE (!decide (ByRow s')) own' q'))) ⟨_, rfl, hD4, hnews, hve4, ?_⟩ ?_ ?_
    · exact t4'.same S fun q _ => by rw [if_neg (by omega)]
    · rintro q σ H5 hq ⟨m5, rfl, hD5, hnews5, hve5, t5⟩
      have hpq : ps[q]? = some ps[q] := List.getElem?_eq_getElem (by rw [S.len]; exact hq)
      obtain ⟨us, hus, hvus⟩ := t5.hp q _ hpq
      rw [if_neg (by omega)] at hvus
      have lus := hvus.len
      obtain ⟨hnone, hsome⟩ := hnews5 q hq
      refine ⟨_, rfl, _, rfl, Dn, _, rfl, DGet.k (k := Sum.inl (0 + (q : Int))) hD5, _, rfl, ?_⟩
      rw [Int.zero_add]
      by_cases h : en.o = asnE (!decide (ByRow s')) ow en.o en.n (fun j => j == q)
      · rw [hnone h]
        refine ifF rfl ⟨_, rfl, hD5, hnews5, hve5, t5.same S fun q' _ => ?_⟩
        by_cases z : q' < q
        · rw [if_pos z, if_pos (by omega)]
        · rw [if_neg z]
          by_cases z2 : q' = q
          · rw [z2, if_pos (by omega), fmt_none hen (by rw [hpe, if_pos h])]
          · rw [if_neg (by omega)]
      · obtain ⟨v, hv, hvo⟩ := hsome h
        rw [hv]
        refine ifT rfl ?_
        obtain ⟨c1, x1, y1, e1', hS5, hx5, hy5⟩ := id hve5
        cases e1'
        refine ⟨_, rfl, _, rfl, _, _, _, V.ref ps[q], rfl, rfl, sq_of t5.hP, atI_nat (by rw [List.getElem?_map, hpq]; rfl), .inl ⟨rfl, _, sq_of hus⟩, ?_⟩
        refine ⟨_, rfl, _, _, _, _, rfl, rfl, hS5, atI0 rfl, _, rfl, _, _, _, _, rfl, rfl, hS5, atI1 rfl, _, rfl, _, rfl, Dn, v, rfl, by rw [← hv]; exact DGet.k (k := Sum.inl (q : Int)) hD5, sz3, fun t ht => ?_⟩
        have g := Ex.new (o := .tup [.int en.p, x1, v]) ht
        have t6 := t5.ex g
        obtain ⟨us6, hus6, hvus6⟩ := t6.hp q _ hpq
        have eus : us6 = us := by
          have h9 := g _ _ hus
          rw [hus6] at h9
          injection h9 with h9
          injection h9
        subst eus
        rw [if_neg (by omega)] at hvus6
        refine ⟨ps[q], us6, _, rfl, rfl, hus6, szK (by have := List.length_filterMap_le (partE (!decide (ByRow s')) own' q) (es.take i); rw [List.length_take] at this; omega), ?_⟩
        have nD : Dn ≠ ps[q] := fun z => nDp (by rw [z]; exact List.getElem_mem _)
        have nl := ExN.list (ys := us6 ++ [.ref t]) hus6
        have eN := (ExN.of g).trans nl
        refine ⟨_, rfl, by rw [upd_ne nD]; exact g _ _ hD5, hnews5.ex eN, hve5.ex eN, t6.add S hpq hus6 ?_ (en := ⟨en.p, en.o, asnE (!decide (ByRow s')) ow en.o en.n fun j => j == q⟩) ⟨t, _, _, rfl, st_of upd_same, hx5.ex (ExN.of g), hvo.ex (ExN.of g)⟩ ?_ ?_⟩
        · rw [if_neg (by omega)]
          exact hvus6
        · rw [if_pos (by omega), if_neg (by omega), fmt_some hen (by rw [hpe, if_neg h])]
        · intro q' hq'
          by_cases z : q' < q
          · rw [if_pos z, if_pos (by omega)]
          · rw [if_neg z, if_neg (by omega)]
    · rintro σ H5 ⟨m5, rfl, hD5, hnews5, hve5, t5⟩
      exact ⟨own', _, _, _, _, _, hown', rfl, t5.same S fun q hq => by rw [if_pos hq]⟩
  · rintro σ H2 ⟨own, m5, m7, m8, m9, m10, hown, rfl, t⟩
    rw [lws, List.take_length] at t
    exact ⟨_, rfl, hQ P ps own H2 S hown t⟩

end Kx

end

section
set_option Elab.async false
set_option linter.all false
set_option maxRecDepth 100000
set_option pp.maxSteps 400
set_option pp.deepTerms false
set_option maxHeartbeats 4000000
namespace Kx
open PySem PySem.Spec PyProof.Rows L2 Evl Pl
/-! ### merged, told, parts -/
theorem merged_mono {K : Fg} {vs : List V} {H : Hp} {Q Q' : VK} {E E' : XK} (hq : ∀ v H', Q v H' → Q' v H') (he : ∀ c d H', E c d H' → E' c d H') (h : spMergedI K vs H Q E) : spMergedI K vs H Q' E' := by
  obtain ⟨x, p, rest, s, n, ps, R, k, h1, h2, h3, h4, h5, h6, h7, h8, h9, h10, h11⟩ := h
  refine ⟨x, p, rest, s, n, ps, R, k, h1, h2, h3, h4, h5, h6, h7, h8, h9, h10, ?_⟩
  rcases h11 with ⟨a, b⟩ | ⟨a, q, b, c, d, e, f⟩
  · exact .inl ⟨a, fun z H' e hz => hq _ _ (b z H' e hz)⟩
  · exact .inr ⟨a, q, b, c, d, e, fun d t ws H' h1 h2 h3 h4 h5 => he _ _ _ (f d t ws H' h1 h2 h3 h4 h5)⟩
def spLMerged (K : Fg) : Sp := fun vs H Q E => ∃ (l x : Addr) (rest : List V) (s : Str), vs = [.ref l, .str s] ∧ SqL K H l (.ref x :: rest) ∧ 5 ≤ rest.length ∧ rest.length ≤ 7 ∧ ∀ p, H p = none → spMergedI K [.ref x, .str s, .ref p] (upd H p (.tup rest)) Q E
theorem len5 {l : List V} (h : l.length = 5) : ∃ a b c d e, l = [a, b, c, d, e] := match l, h with | [a, b, c, d, e], _ => ⟨a, b, c, d, e, rfl⟩
theorem len6 {l : List V} (h : l.length = 6) : ∃ a b c d e f, l = [a, b, c, d, e, f] := match l, h with | [a, b, c, d, e, f], _ => ⟨a, b, c, d, e, f, rfl⟩
theorem len7 {l : List V} (h : l.length = 7) : ∃ a b c d e f g, l = [a, b, c, d, e, f, g] := match l, h with | [a, b, c, d, e, f, g], _ => ⟨a, b, c, d, e, f, g, rfl⟩
theorem ok__law_merged {w : World} {K : Fg} {mg : Str → Option Value} {base : Heap} (T : Top K mg) (D_merged : Df PR w K mg base 12 "merged" ["by"] (fun vs H Q E => ∃ a rest z, vs = a :: rest ++ [z] ∧ rest.length ≤ 7 ∧ ∀ p, H p = none → spMergedI K [a, z, .ref p] (upd H p (.tup rest)) Q E)) : FnA PR w K mg base 13 (He.ga K "_law_merged") [] ((spLMerged K)) := by
  obtain ⟨_, fd, F⟩ := T.f__law_merged
  refine fna_d0 F sc__law_merged (fun vs H Q E h => ?_) (fun _ _ _ _ _ _ us hl => match us, hl with | [_, _], _ => rfl) (fun cdv A outer s H vs Q E hr h => ?_)
  · obtain ⟨l, x, rest, s', rfl, hS, h5, h7, hM⟩ := h; rfl
  obtain ⟨l, x, rest, s', rfl, hS, h5, h7, hM⟩ := h
  refine ⟨_, (pss_cons (ps_if (pt_cmpR op_eq (pe_callB call_len_seq (by rfl) T.b_len (by decide +kernel) (pa_cons (pv 0) pa_nil)) pe_int (nomark _)) (pss_one (ps_ret (pe_dfK D_merged (hr.mono (by decide)) (by rfl) (fun σ => passAt tkOf σ) (pa_cons (pe_ix ix_list (pv 0) pe_int (fun _ _ => rfl)) (pa_cons (pe_ix ix_list (pv 0) pe_int (fun _ _ => rfl)) (pa_cons (pe_ix ix_list (pv 0) pe_int (fun _ _ => rfl)) (pa_cons (pe_ix ix_list (pv 0) pe_int (fun _ _ => rfl)) (pa_cons (pe_ix ix_list (pv 0) pe_int (fun _ _ => rfl)) (pa_cons (pe_ix ix_list (pv 0) pe_int (fun _ _ => rfl)) pa_nil)))))) (pk_cons (pv 1) pk_nil)))) pss_nil)
    (pss_cons (ps_if (pt_cmpR op_eq (pe_callB call_len_seq (by rfl) T.b_len (by decide +kernel) (pa_cons (pv 0) pa_nil)) pe_int (nomark _)) (pss_one (ps_ret (pe_dfK D_merged (hr.mono (by decide)) (by rfl) (fun σ => passAt tkOf σ) (pa_cons (pe_ix ix_list (pv 0) pe_int (fun _ _ => rfl)) (pa_cons (pe_ix ix_list (pv 0) pe_int (fun _ _ => rfl)) (pa_cons (pe_ix ix_list (pv 0) pe_int (fun _ _ => rfl)) (pa_cons (pe_ix ix_list (pv 0) pe_int (fun _ _ => rfl)) (pa_cons (pe_ix ix_list (pv 0) pe_int (fun _ _ => rfl)) (pa_cons (pe_ix ix_list (pv 0) pe_int (fun _ _ => rfl)) (pa_cons (pe_ix ix_list (pv 0) pe_int (fun _ _ => rfl)) pa_nil))))))) (pk_cons (pv 1) pk_nil)))) pss_nil)
    (pss_one (ps_ret (pe_dfK D_merged (hr.mono (by decide)) (by rfl) (fun σ => passAt tkOf σ) (pa_cons (pe_ix ix_list (pv 0) pe_int (fun _ _ => rfl)) (pa_cons (pe_ix ix_list (pv 0) pe_int (fun _ _ => rfl)) (pa_cons (pe_ix ix_list (pv 0) pe_int (fun _ _ => rfl)) (pa_cons (pe_ix ix_list (pv 0) pe_int (fun _ _ => rfl)) (pa_cons (pe_ix ix_list (pv 0) pe_int (fun _ _ => rfl)) (pa_cons (pe_ix ix_list (pv 0) pe_int (fun _ _ => rfl)) (pa_cons (pe_ix ix_list (pv 0) pe_int (fun _ _ => rfl)) (pa_cons (pe_ix ix_list (pv 0) pe_int (fun _ _ => rfl)) pa_nil)))))))) (pk_cons (pv 1) pk_nil)))))), ?_⟩
  refine ⟨_, rfl, _, _, rfl, .inl hS, rfl, _, rfl, ?_⟩
  by_cases e5 : rest.length = 5
  · refine ifT (decide_eq_true (by rw [List.length_cons, e5]; rfl)) ?_
    obtain ⟨a, b, c, d, e, rfl⟩ := len5 e5
    exact ⟨_, rfl, _, _, _, _, rfl, rfl, hS, atI_nat (j := 0) rfl, _, rfl, _, _, _, _, rfl, rfl, hS, atI_nat (j := 1) rfl, _, rfl, _, _, _, _, rfl, rfl, hS, atI_nat (j := 2) rfl, _, rfl, _, _, _, _, rfl, rfl, hS, atI_nat (j := 3) rfl, _, rfl, _, _, _, _, rfl, rfl, hS, atI_nat (j := 4) rfl, _, rfl, _, _, _, _, rfl, rfl, hS, atI_nat (j := 5) rfl, _, rfl, rfl, .ref x, [a, b, c, d, e], .str s', rfl, by simp, fun p hp => merged_mono (fun _ _ z => z) (fun _ _ _ z => z) (hM p hp)⟩
  refine ifF (decide_eq_false (fun z => e5 (by injection z with z; rw [List.length_cons] at z; omega))) ?_
  refine ⟨_, rfl, _, _, rfl, .inl hS, rfl, _, rfl, ?_⟩
  by_cases e6 : rest.length = 6
  · refine ifT (decide_eq_true (by rw [List.length_cons, e6]; rfl)) ?_
    obtain ⟨a, b, c, d, e, f, rfl⟩ := len6 e6
    exact ⟨_, rfl, _, _, _, _, rfl, rfl, hS, atI_nat (j := 0) rfl, _, rfl, _, _, _, _, rfl, rfl, hS, atI_nat (j := 1) rfl, _, rfl, _, _, _, _, rfl, rfl, hS, atI_nat (j := 2) rfl, _, rfl, _, _, _, _, rfl, rfl, hS, atI_nat (j := 3) rfl, _, rfl, _, _, _, _, rfl, rfl, hS, atI_nat (j := 4) rfl, _, rfl, _, _, _, _, rfl, rfl, hS, atI_nat (j := 5) rfl, _, rfl, _, _, _, _, rfl, rfl, hS, atI_nat (j := 6) rfl, _, rfl, rfl, .ref x, [a, b, c, d, e, f], .str s', rfl, by simp, fun p hp => merged_mono (fun _ _ z => z) (fun _ _ _ z => z) (hM p hp)⟩
  refine ifF (decide_eq_false (fun z => e6 (by injection z with z; rw [List.length_cons] at z; omega))) ?_
  obtain ⟨a, b, c, d, e, f, g, rfl⟩ := len7 (l := rest) (by omega)
  exact ⟨_, rfl, _, _, _, _, rfl, rfl, hS, atI_nat (j := 0) rfl, _, rfl, _, _, _, _, rfl, rfl, hS, atI_nat (j := 1) rfl, _, rfl, _, _, _, _, rfl, rfl, hS, atI_nat (j := 2) rfl, _, rfl, _, _, _, _, rfl, rfl, hS, atI_nat (j := 3) rfl, _, rfl, _, _, _, _, rfl, rfl, hS, atI_nat (j := 4) rfl, _, rfl, _, _, _, _, rfl, rfl, hS, atI_nat (j := 5) rfl, _, rfl, _, _, _, _, rfl, rfl, hS, atI_nat (j := 6) rfl, _, rfl, _, _, _, _, rfl, rfl, hS, atI_nat (j := 7) rfl, _, rfl, rfl, .ref x, [a, b, c, d, e, f, g], .str s', rfl, by simp, fun p hp => merged_mono (fun _ _ z => z) (fun _ _ _ z => z) (hM p hp)⟩
def CfQ (K : Fg) (Q : VK) : XK := fun c d H' => c = .ref (He.ga K "Conflict") ∧ ∃ d' t, d = some d' ∧ H' d' = some (.xd [("conflicts", .ref t)]) ∧ Q (.ref t) H'
def spLConf (K : Fg) : Sp := fun vs H Q _ => ∃ (l x : Addr) (rest : List V) (s : Str), vs = [.ref l, .str s] ∧ SqL K H l (.ref x :: rest) ∧ 5 ≤ rest.length ∧ rest.length ≤ 7 ∧ ∀ p, H p = none → spMergedI K [.ref x, .str s, .ref p] (upd H p (.tup rest)) (fun _ H' => Q .non H') (CfQ K Q)
theorem ok__law_conflict {w : World} {K : Fg} {mg : Str → Option Value} {base : Heap} (T : Top K mg) (D__law_merged : Df PR w K mg base 13 "_law_merged" [] (spLMerged K)) : FnA PR w K mg base 14 (He.ga K "_law_conflict") [] ((spLConf K)) := by
  obtain ⟨_, fd, F⟩ := T.f__law_conflict
  refine fna_d0 F sc__law_conflict (fun vs H Q E h => ?_) (fun _ _ _ _ _ _ us hl => match us, hl with | [_, _], _ => rfl) (fun cdv A outer s H vs Q E hr h => ?_)
  · obtain ⟨l, x, rest, s', rfl, hS, h5, h7, hM⟩ := h; rfl
  obtain ⟨l, x, rest, s', rfl, hS, h5, h7, hM⟩ := h
  refine ⟨_, (pss_cons (ps_set (i := 2) sc__law_conflict.nd rfl (Or.inl rfl) pe_non)
    (pss_cons (ps_tryA rfl rfl sc__law_conflict.nd tkOf (fun W pn xe tk po => (pss_one (ps_expr (pe_df D__law_merged (hr.mono (by decide)) (by rfl) (fun σ => passAt tk σ) (pa_cons (pv 0) (pa_cons (pv 1) pa_nil)))))) (HdsA.as_ (i := 3) rfl rfl ⟨rfl, by decide, .inl T.g_Conflict⟩ (fun a oe cls d pn hz hf => (pss_one (ps_set (i := 2) sc__law_conflict.nd rfl (Or.inl rfl) (pe_xf T.xf_Conflict T.nf_Conflict_conflicts hz hf (pv 3))))) HdsA.nil))
    (pss_one (ps_ret (pv 2))))), ?_⟩
  refine ⟨_, rfl, _, rfl, l, x, rest, s', rfl, hS, h5, h7, fun p hp => merged_mono (fun v H' z => ?_) (fun c d H' z => ?_) (hM p hp)⟩
  · exact ⟨_, rfl, z⟩
  · obtain ⟨rfl, d', t, rfl, hd, hQ⟩ := z
    refine ⟨true, T.ex_Conflict_Conflict, fun _ a ha => ?_, fun z => Bool.noConfusion z⟩
    exact ⟨_, rfl, rfl, rfl, d', _, _, rfl, hd, rfl, ⟨_, rfl, hQ⟩⟩

end Kx

end

section
set_option Elab.async false
set_option linter.all false
set_option maxRecDepth 100000
set_option pp.maxSteps 400
set_option pp.deepTerms false
set_option maxHeartbeats 4000000
namespace Kx
open PySem PySem.Spec PyProof.Rows L2 Evl Pl
theorem len12 {l : List Int} (h : l.length = 12) : ∃ k0 k1 k2 k3 k4 k5 k6 k7 k8 k9 k10 k11, l = [k0, k1, k2, k3, k4, k5, k6, k7, k8, k9, k10, k11] := match l, h with | [k0, k1, k2, k3, k4, k5, k6, k7, k8, k9, k10, k11], _ => ⟨k0, k1, k2, k3, k4, k5, k6, k7, k8, k9, k10, k11, rfl⟩
theorem keep_len (ks : List Int) (b : Bool) (es : List Ent) : (keepM ks b es).length ≤ es.length := List.length_filter_le _ _
theorem keep_mem {ks : List Int} {b : Bool} {es : List Ent} {e : Ent} (h : e ∈ keepM ks b es) : e ∈ es := (List.mem_filter.mp h).1
/-- the entries that are kept, as the comprehension tells them -/
def keepF (ks : List Int) (b : Bool) (e : Ent) : Option Ent := if (ks.contains e.key == b) = true then some e else none
theorem keepF_eq {ks : List Int} {b : Bool} {es : List Ent} : es.filterMap (keepF ks b) = keepM ks b es := fm_filter
theorem keepF_t {ks : List Int} {e : Ent} (h : inV (.int e.key) (vis ks) = true) : keepF ks true e = some e ∧ keepF ks false e = none := by
  rw [in_ints] at h
  unfold keepF
  rw [h]
  exact ⟨rfl, rfl⟩
theorem keepF_f {ks : List Int} {e : Ent} (h : ¬ inV (.int e.key) (vis ks) = true) : keepF ks true e = none ∧ keepF ks false e = some e := by
  rw [in_ints, Bool.not_eq_true] at h
  unfold keepF
  rw [h]
  exact ⟨rfl, rfl⟩
theorem not_in {x : V} {xs : List V} (h : (!inV x xs) = true) : ¬ inV x xs = true := fun z => by rw [z] at h; cases h
theorem not_not_in {x : V} {xs : List V} (h : ¬ (!inV x xs) = true) : inV x xs = true := by
  cases z : inV x xs with
  | true => rfl
  | false => exact absurd (by rw [z]; rfl) h
def spLParts (K : Fg) : Sp := fun vs H Q _ => ∃ (x el kl : Addr) (n : Nat) (ws : List V) (es : List Ent) (ks : List Int), vs = [.ref x, .int (n : Int), .ref el, .ref kl] ∧ VLay K H (He.ga K "Layer") x n es ∧ SqL K H el ws ∧ All2 (VE K H) ws es ∧ SqL K H kl (vis ks) ∧ ks.length = 12 ∧ EntsOk n es ∧ es.length ≤ 24 ∧ 1 ≤ n ∧ n ≤ 8 ∧
  (∀ ks b, EntsOk n (keepM ks b es)) ∧ ∀ H', Ex H H' → Q (.bl true) H'
theorem ok__law_parts {w : World} {K : Fg} {mg : Str → Option Value} {base : Heap} (T : Top K mg) (D__law_key : Df PR w K mg base 1 "_law_key" [] (spKey K)) (D__law_is_layer : Df PR w K mg base 6 "_law_is_layer" [] (spLLay K)) (D_Layer_only : MtS PR w K mg base 8 (He.ga K "Layer") "only" (spOnly K true)) (D_Layer_without : MtS PR w K mg base 8 (He.ga K "Layer") "without" (spOnly K false)) : FnA PR w K mg base 10 (He.ga K "_law_parts") [] ((spLParts K)) := by
  obtain ⟨_, fd, F⟩ := T.f__law_parts
  refine fna_d0 F sc__law_parts (fun vs H Q E h => ?_) (fun _ _ _ _ _ _ us hl => match us, hl with | [_, _, _, _], _ => rfl) (fun cdv A outer s H vs Q E hr h => ?_)
  · obtain ⟨x, el, kl, n, ws, es, ks, rfl, hx, hel, hws, hkl, hk12, ok, hz, hn, hn8, okk, hQ⟩ := h; rfl
  obtain ⟨x, el, kl, n, ws, es, ks, rfl, hx, hel, hws, hkl, hk12, ok, hz, hn, hn8, okk, hQ⟩ := h
  refine ⟨_, (pss_cons (ps_setLc (i := 4) (own := [("entry", 7)]) (g := gName 7) rfl sc__law_parts.nd rfl rfl (sw_true rfl rfl rfl (by decide +kernel)) (pi_list (pv 2)) (blkOk_by (own := [("entry", 7)]) (N := ["layer", "width", "entries", "ks", "few", "rest", "part", "entry"]) (sc := defScope s__law_parts) (by decide +kernel)) (fun _ _ _ _ _ => (pg_name (i := 7) sc__law_parts.nd rfl (Or.inl rfl))) (fun _ _ _ _ _ => (pts_one (pt_cmpR (r := rIn K false) op_in_seq (pe_df D__law_key (hr.mono (by decide)) (by rfl) passLA (pa_cons (pv 7) pa_nil)) (pe_slice (r := rSlL K) sl_list (pv 3) po_none (po_some pe_int)) (by rfl)))) (fun _ _ _ _ _ => (pv 7)))
    (pss_cons (ps_setLc (i := 5) (own := [("entry", 7)]) (g := gName 7) rfl sc__law_parts.nd rfl rfl (sw_true rfl rfl rfl (by decide +kernel)) (pi_list (pv 2)) (blkOk_by (own := [("entry", 7)]) (N := ["layer", "width", "entries", "ks", "few", "rest", "part", "entry"]) (sc := defScope s__law_parts) (by decide +kernel)) (fun _ _ _ _ _ => (pg_name (i := 7) sc__law_parts.nd rfl (Or.inl rfl))) (fun _ _ _ _ _ => (pts_one (pt_cmpR (r := rIn K true) op_notIn_seq (pe_df D__law_key (hr.mono (by decide)) (by rfl) passLA (pa_cons (pv 7) pa_nil)) (pe_slice (r := rSlL K) sl_list (pv 3) po_none (po_some pe_int)) (by rfl)))) (fun _ _ _ _ _ => (pv 7)))
    (pss_cons (ps_if (pt_not (pt_val (pe_df D__law_is_layer (hr.mono (by decide)) (by rfl) passLA (pa_cons (pe_mtS (pv 0) D_Layer_only (hr.mono (by decide)) passLA (pa_cons (pe_ix ix_list (pv 3) pe_int (fun _ _ => rfl)) (pa_cons (pe_ix ix_list (pv 3) pe_int (fun _ _ => rfl)) (pa_cons (pe_ix ix_list (pv 3) pe_int (fun _ _ => rfl)) (pa_cons (pe_ix ix_list (pv 3) pe_int (fun _ _ => rfl)) (pa_cons (pe_ix ix_list (pv 3) pe_int (fun _ _ => rfl)) (pa_cons (pe_ix ix_list (pv 3) pe_int (fun _ _ => rfl)) (pa_cons (pe_ix ix_list (pv 3) pe_int (fun _ _ => rfl)) pa_nil)))))))) (pa_cons (pv 1) (pa_cons (pv 4) pa_nil)))))) (pss_one (ps_ret pe_bl)) pss_nil)
    (pss_cons (ps_if (pt_not (pt_val (pe_df D__law_is_layer (hr.mono (by decide)) (by rfl) passLA (pa_cons (pe_mtS (pv 0) D_Layer_without (hr.mono (by decide)) passLA (pa_cons (pe_ix ix_list (pv 3) pe_int (fun _ _ => rfl)) (pa_cons (pe_ix ix_list (pv 3) pe_int (fun _ _ => rfl)) (pa_cons (pe_ix ix_list (pv 3) pe_int (fun _ _ => rfl)) (pa_cons (pe_ix ix_list (pv 3) pe_int (fun _ _ => rfl)) (pa_cons (pe_ix ix_list (pv 3) pe_int (fun _ _ => rfl)) (pa_cons (pe_ix ix_list (pv 3) pe_int (fun _ _ => rfl)) (pa_cons (pe_ix ix_list (pv 3) pe_int (fun _ _ => rfl)) pa_nil)))))))) (pa_cons (pv 1) (pa_cons (pv 5) pa_nil)))))) (pss_one (ps_ret pe_bl)) pss_nil)
    (pss_cons (ps_setLc (i := 4) (own := [("entry", 7)]) (g := gName 7) rfl sc__law_parts.nd rfl rfl (sw_true rfl rfl rfl (by decide +kernel)) (pi_list (pv 2)) (blkOk_by (own := [("entry", 7)]) (N := ["layer", "width", "entries", "ks", "few", "rest", "part", "entry"]) (sc := defScope s__law_parts) (by decide +kernel)) (fun _ _ _ _ _ => (pg_name (i := 7) sc__law_parts.nd rfl (Or.inl rfl))) (fun _ _ _ _ _ => (pts_one (pt_cmpR (r := rIn K false) op_in_seq (pe_df D__law_key (hr.mono (by decide)) (by rfl) passLA (pa_cons (pv 7) pa_nil)) (pv 3) (by rfl)))) (fun _ _ _ _ _ => (pv 7)))
    (pss_cons (ps_setLc (i := 5) (own := [("entry", 7)]) (g := gName 7) rfl sc__law_parts.nd rfl rfl (sw_true rfl rfl rfl (by decide +kernel)) (pi_list (pv 2)) (blkOk_by (own := [("entry", 7)]) (N := ["layer", "width", "entries", "ks", "few", "rest", "part", "entry"]) (sc := defScope s__law_parts) (by decide +kernel)) (fun _ _ _ _ _ => (pg_name (i := 7) sc__law_parts.nd rfl (Or.inl rfl))) (fun _ _ _ _ _ => (pts_one (pt_cmpR (r := rIn K true) op_notIn_seq (pe_df D__law_key (hr.mono (by decide)) (by rfl) passLA (pa_cons (pv 7) pa_nil)) (pv 3) (by rfl)))) (fun _ _ _ _ _ => (pv 7)))
    (pss_cons (ps_set (i := 6) sc__law_parts.nd rfl (Or.inl rfl) (pe_mtS (pv 0) D_Layer_only (hr.mono (by decide)) passLA (pa_cons (pe_ix ix_list (pv 3) pe_int (fun _ _ => rfl)) (pa_cons (pe_ix ix_list (pv 3) pe_int (fun _ _ => rfl)) (pa_cons (pe_ix ix_list (pv 3) pe_int (fun _ _ => rfl)) (pa_cons (pe_ix ix_list (pv 3) pe_int (fun _ _ => rfl)) (pa_cons (pe_ix ix_list (pv 3) pe_int (fun _ _ => rfl)) (pa_cons (pe_ix ix_list (pv 3) pe_int (fun _ _ => rfl)) (pa_cons (pe_ix ix_list (pv 3) pe_int (fun _ _ => rfl)) (pa_cons (pe_ix ix_list (pv 3) pe_int (fun _ _ => rfl)) (pa_cons (pe_ix ix_list (pv 3) pe_int (fun _ _ => rfl)) (pa_cons (pe_ix ix_list (pv 3) pe_int (fun _ _ => rfl)) (pa_cons (pe_ix ix_list (pv 3) pe_int (fun _ _ => rfl)) (pa_cons (pe_ix ix_list (pv 3) pe_int (fun _ _ => rfl)) pa_nil))))))))))))))
    (pss_cons (ps_if (pt_not (pt_val (pe_df D__law_is_layer (hr.mono (by decide)) (by rfl) passLA (pa_cons (pv 6) (pa_cons (pv 1) (pa_cons (pv 4) pa_nil)))))) (pss_one (ps_ret pe_bl)) pss_nil)
    (pss_cons (ps_set (i := 6) sc__law_parts.nd rfl (Or.inl rfl) (pe_mtS (pv 0) D_Layer_without (hr.mono (by decide)) passLA (pa_cons (pe_ix ix_list (pv 3) pe_int (fun _ _ => rfl)) (pa_cons (pe_ix ix_list (pv 3) pe_int (fun _ _ => rfl)) (pa_cons (pe_ix ix_list (pv 3) pe_int (fun _ _ => rfl)) (pa_cons (pe_ix ix_list (pv 3) pe_int (fun _ _ => rfl)) (pa_cons (pe_ix ix_list (pv 3) pe_int (fun _ _ => rfl)) (pa_cons (pe_ix ix_list (pv 3) pe_int (fun _ _ => rfl)) (pa_cons (pe_ix ix_list (pv 3) pe_int (fun _ _ => rfl)) (pa_cons (pe_ix ix_list (pv 3) pe_int (fun _ _ => rfl)) (pa_cons (pe_ix ix_list (pv 3) pe_int (fun _ _ => rfl)) (pa_cons (pe_ix ix_list (pv 3) pe_int (fun _ _ => rfl)) (pa_cons (pe_ix ix_list (pv 3) pe_int (fun _ _ => rfl)) (pa_cons (pe_ix ix_list (pv 3) pe_int (fun _ _ => rfl)) pa_nil))))))))))))))
    (pss_one (ps_ret (pe_df D__law_is_layer (hr.mono (by decide)) (by rfl) passLA (pa_cons (pv 6) (pa_cons (pv 1) (pa_cons (pv 5) pa_nil))))))))))))))), ?_⟩
  obtain ⟨dx, le, lk, us, hsl, _, _, _⟩ := id hx
  have lw := hws.len
  obtain ⟨k0, k1, k2, k3, k4, k5, k6, k7, k8, k9, k10, k11, rfl⟩ := len12 hk12
  have sev : cutV (vis [k0, k1, k2, k3, k4, k5, k6, k7, k8, k9, k10, k11]) Option.none (some (7 : Int)) = vis [k0, k1, k2, k3, k4, k5, k6] := rfl
  have hmem : ∀ e ∈ es, KeyOk n e := fun e he => (ok.all e he).key
  refine ⟨_, rfl, el, rfl, ⟨_, ex_l (Ex.refl H) hel⟩, fun f7 hf7 => ?_⟩
  refine lc_fmL (m := fun i => (es[i]?).bind (keepF [k0, k1, k2, k3, k4, k5, k6] true)) (R := fun y e H => VE K H y e) (ex_l (Ex.refl H) hel) (szK (by omega)) hf7 (fun y e H H' en h => h.ex en) (fun i z H2 Qy Qn hi e ky kn => ?_) fun ys1 H1 st1 hyf7 _ hr1 => ?_
  · obtain ⟨en, he, hve⟩ := hws.get hi
    have hve' := hve.ex (ExN.of ((Ex.refl H).trans e))
    have hkk := hmem en (List.mem_of_getElem? he)
    refine ⟨rfl, _, rfl, z, en, n, rfl, hve', hkk, hn, _, rfl, _, rfl, kl, _, rfl, ex_l ((Ex.refl H).trans e) hkl, fun p hp => ?_⟩
    have g := Ex.new (o := .lst (cutV (vis [k0, k1, k2, k3, k4, k5, k6, k7, k8, k9, k10, k11]) Option.none (some (7 : Int)))) hp
    refine ⟨p, _, rfl, .inl (sq_of upd_same), rfl, by rw [sev]; exact flat_vis, _, rfl, ?_⟩
    rw [sev] at g ⊢
    refine ite2 (fun h => ⟨_, rfl, ky _ en _ g (by rw [he]; exact (keepF_t (ks := [k0, k1, k2, k3, k4, k5, k6]) h).1) (hve'.ex (ExN.of g))⟩) fun h => kn _ g (by rw [he]; exact (keepF_f (ks := [k0, k1, k2, k3, k4, k5, k6]) h).1)
  have vf7 : All2 (VE K H1) ys1 (keepM [k0, k1, k2, k3, k4, k5, k6] true es) := by
    rw [lw, fm_list, keepF_eq] at hr1
    exact hr1
  have ex1 : Ex H H1 := (Ex.refl H).trans st1
  refine ⟨_, rfl, el, rfl, ⟨_, ex_l ex1 hel⟩, fun r7 hr7 => ?_⟩
  refine lc_fmL (m := fun i => (es[i]?).bind (keepF [k0, k1, k2, k3, k4, k5, k6] false)) (R := fun y e H => VE K H y e) (ex_l ex1 hel) (szK (by omega)) hr7 (fun y e H H' en h => h.ex en) (fun i z H2 Qy Qn hi e ky kn => ?_) fun ys2 H2 st2 hyr7 _ hr2 => ?_
  · obtain ⟨en, he, hve⟩ := hws.get hi
    have hve' := hve.ex (ExN.of (ex1.trans e))
    have hkk := hmem en (List.mem_of_getElem? he)
    refine ⟨rfl, _, rfl, z, en, n, rfl, hve', hkk, hn, _, rfl, _, rfl, kl, _, rfl, ex_l (ex1.trans e) hkl, fun p hp => ?_⟩
    have g := Ex.new (o := .lst (cutV (vis [k0, k1, k2, k3, k4, k5, k6, k7, k8, k9, k10, k11]) Option.none (some (7 : Int)))) hp
    refine ⟨p, _, rfl, .inl (sq_of upd_same), rfl, by rw [sev]; exact flat_vis, _, rfl, ?_⟩
    rw [sev] at g ⊢
    refine ite2 (fun h => ⟨_, rfl, ky _ en _ g (by rw [he]; exact (keepF_f (ks := [k0, k1, k2, k3, k4, k5, k6]) (not_in h)).2) (hve'.ex (ExN.of g))⟩) fun h => kn _ g (by rw [he]; exact (keepF_t (ks := [k0, k1, k2, k3, k4, k5, k6]) (not_not_in h)).2)
  have vr7 : All2 (VE K H2) ys2 (keepM [k0, k1, k2, k3, k4, k5, k6] false es) := by
    rw [lw, fm_list, keepF_eq] at hr2
    exact hr2
  have ex2 : Ex H H2 := ex1.trans st2
  have hyf7 := st2 _ _ hyf7
  have vf7 := ves_ex (ExN.of st2) vf7
  have hk3 := ex_l ex2 hkl
  refine ⟨_, rfl, x, dx, _, rfl, ex_slt ex2 hsl, _, rfl, _, _, _, _, rfl, rfl, hk3, atI_nat (j := 0) rfl, _, rfl, _, _, _, _, rfl, rfl, hk3, atI_nat (j := 1) rfl, _, rfl, _, _, _, _, rfl, rfl, hk3, atI_nat (j := 2) rfl, _, rfl, _, _, _, _, rfl, rfl, hk3, atI_nat (j := 3) rfl, _, rfl, _, _, _, _, rfl, rfl, hk3, atI_nat (j := 4) rfl, _, rfl, _, _, _, _, rfl, rfl, hk3, atI_nat (j := 5) rfl, _, rfl, _, _, _, _, rfl, rfl, hk3, atI_nat (j := 6) rfl, .ref x, [.int k0, .int k1, .int k2, .int k3, .int k4, .int k5, .int k6], rfl, by simp, fun p3 hp3 => ?_⟩
  have g3 := Ex.new (o := .tup [.int k0, .int k1, .int k2, .int k3, .int k4, .int k5, .int k6]) hp3
  refine ⟨x, p3, n, es, [k0, k1, k2, k3, k4, k5, k6], rfl, hx.mono (ex2.trans g3), st_of upd_same, ok, hn, by omega, by omega, okk _ _, fun z3 H3a _ s3a hlay3 => ?_⟩
  have st3 := g3.trans s3a
  refine ⟨_, rfl, _, rfl, z3, f7, _, _, n, rfl, hlay3, sq_of (st3 _ _ hyf7), ves_ex (ExN.of st3) vf7, fun e he => ok.all e (keep_mem he), by omega, Nat.le_trans (keep_len _ _ _) (by omega), fun H3 t3 => ?_⟩
  refine ⟨true, rfl, iteF ?_⟩
  have ex3 : Ex H H3 := (ex2.trans st3).trans t3
  have hyf7 := t3 _ _ (st3 _ _ hyf7)
  have vf7 := ves_ex (ExN.of (st3.trans t3)) vf7
  have hyr7 := t3 _ _ (st3 _ _ hyr7)
  have vr7 := ves_ex (ExN.of (st3.trans t3)) vr7
  have hk4 := ex_l ex3 hkl
  refine ⟨_, rfl, x, dx, _, rfl, ex_slt ex3 hsl, _, rfl, _, _, _, _, rfl, rfl, hk4, atI_nat (j := 0) rfl, _, rfl, _, _, _, _, rfl, rfl, hk4, atI_nat (j := 1) rfl, _, rfl, _, _, _, _, rfl, rfl, hk4, atI_nat (j := 2) rfl, _, rfl, _, _, _, _, rfl, rfl, hk4, atI_nat (j := 3) rfl, _, rfl, _, _, _, _, rfl, rfl, hk4, atI_nat (j := 4) rfl, _, rfl, _, _, _, _, rfl, rfl, hk4, atI_nat (j := 5) rfl, _, rfl, _, _, _, _, rfl, rfl, hk4, atI_nat (j := 6) rfl, .ref x, [.int k0, .int k1, .int k2, .int k3, .int k4, .int k5, .int k6], rfl, by simp, fun p4 hp4 => ?_⟩
  have g4 := Ex.new (o := .tup [.int k0, .int k1, .int k2, .int k3, .int k4, .int k5, .int k6]) hp4
  refine ⟨x, p4, n, es, [k0, k1, k2, k3, k4, k5, k6], rfl, hx.mono (ex3.trans g4), st_of upd_same, ok, hn, by omega, by omega, okk _ _, fun z4 H4a _ s4a hlay4 => ?_⟩
  have st4 := g4.trans s4a
  refine ⟨_, rfl, _, rfl, z4, r7, _, _, n, rfl, hlay4, sq_of (st4 _ _ hyr7), ves_ex (ExN.of st4) vr7, fun e he => ok.all e (keep_mem he), by omega, Nat.le_trans (keep_len _ _ _) (by omega), fun H4 t4 => ?_⟩
  refine ⟨true, rfl, iteF ?_⟩
  have ex4 : Ex H H4 := (ex3.trans st4).trans t4
  have hyf7 := t4 _ _ (st4 _ _ hyf7)
  have vf7 := ves_ex (ExN.of (st4.trans t4)) vf7
  have hyr7 := t4 _ _ (st4 _ _ hyr7)
  have vr7 := ves_ex (ExN.of (st4.trans t4)) vr7
  refine ⟨_, rfl, el, rfl, ⟨_, ex_l ex4 hel⟩, fun f12 hf12 => ?_⟩
  refine lc_fmL (m := fun i => (es[i]?).bind (keepF [k0, k1, k2, k3, k4, k5, k6, k7, k8, k9, k10, k11] true)) (R := fun y e H => VE K H y e) (ex_l ex4 hel) (szK (by omega)) hf12 (fun y e H H' en h => h.ex en) (fun i z H2 Qy Qn hi e ky kn => ?_) fun ys5 H5 st5 hyf12 _ hr5 => ?_
  · obtain ⟨en, he, hve⟩ := hws.get hi
    have hve' := hve.ex (ExN.of (ex4.trans e))
    have hkk := hmem en (List.mem_of_getElem? he)
    refine ⟨rfl, _, rfl, z, en, n, rfl, hve', hkk, hn, _, rfl, kl, _, rfl, .inl (ex_l (ex4.trans e) hkl), rfl, flat_vis, _, rfl, ?_⟩
    refine ite2 (fun h => ⟨_, rfl, ky _ en _ (Ex.refl _) (by rw [he]; exact (keepF_t (ks := [k0, k1, k2, k3, k4, k5, k6, k7, k8, k9, k10, k11]) h).1) hve'⟩) fun h => kn _ (Ex.refl _) (by rw [he]; exact (keepF_f (ks := [k0, k1, k2, k3, k4, k5, k6, k7, k8, k9, k10, k11]) h).1)
  have vf12 : All2 (VE K H5) ys5 (keepM [k0, k1, k2, k3, k4, k5, k6, k7, k8, k9, k10, k11] true es) := by
    rw [lw, fm_list, keepF_eq] at hr5
    exact hr5
  have ex5 : Ex H H5 := ex4.trans st5
  have hyf7 := st5 _ _ hyf7
  have vf7 := ves_ex (ExN.of st5) vf7
  have hyr7 := st5 _ _ hyr7
  have vr7 := ves_ex (ExN.of st5) vr7
  refine ⟨_, rfl, el, rfl, ⟨_, ex_l ex5 hel⟩, fun r12 hr12 => ?_⟩
  refine lc_fmL (m := fun i => (es[i]?).bind (keepF [k0, k1, k2, k3, k4, k5, k6, k7, k8, k9, k10, k11] false)) (R := fun y e H => VE K H y e) (ex_l ex5 hel) (szK (by omega)) hr12 (fun y e H H' en h => h.ex en) (fun i z H2 Qy Qn hi e ky kn => ?_) fun ys6 H6 st6 hyr12 _ hr6 => ?_
  · obtain ⟨en, he, hve⟩ := hws.get hi
    have hve' := hve.ex (ExN.of (ex5.trans e))
    have hkk := hmem en (List.mem_of_getElem? he)
    refine ⟨rfl, _, rfl, z, en, n, rfl, hve', hkk, hn, _, rfl, kl, _, rfl, .inl (ex_l (ex5.trans e) hkl), rfl, flat_vis, _, rfl, ?_⟩
    refine ite2 (fun h => ⟨_, rfl, ky _ en _ (Ex.refl _) (by rw [he]; exact (keepF_f (ks := [k0, k1, k2, k3, k4, k5, k6, k7, k8, k9, k10, k11]) (not_in h)).2) hve'⟩) fun h => kn _ (Ex.refl _) (by rw [he]; exact (keepF_t (ks := [k0, k1, k2, k3, k4, k5, k6, k7, k8, k9, k10, k11]) (not_not_in h)).2)
  have vr12 : All2 (VE K H6) ys6 (keepM [k0, k1, k2, k3, k4, k5, k6, k7, k8, k9, k10, k11] false es) := by
    rw [lw, fm_list, keepF_eq] at hr6
    exact hr6
  have ex6 : Ex H H6 := ex5.trans st6
  have hyf7 := st6 _ _ hyf7
  have vf7 := ves_ex (ExN.of st6) vf7
  have hyr7 := st6 _ _ hyr7
  have vr7 := ves_ex (ExN.of st6) vr7
  have hyf12 := st6 _ _ hyf12
  have vf12 := ves_ex (ExN.of st6) vf12
  have hk7 := ex_l ex6 hkl
  refine ⟨_, rfl, x, dx, _, rfl, ex_slt ex6 hsl, _, rfl, _, _, _, _, rfl, rfl, hk7, atI_nat (j := 0) rfl, _, rfl, _, _, _, _, rfl, rfl, hk7, atI_nat (j := 1) rfl, _, rfl, _, _, _, _, rfl, rfl, hk7, atI_nat (j := 2) rfl, _, rfl, _, _, _, _, rfl, rfl, hk7, atI_nat (j := 3) rfl, _, rfl, _, _, _, _, rfl, rfl, hk7, atI_nat (j := 4) rfl, _, rfl, _, _, _, _, rfl, rfl, hk7, atI_nat (j := 5) rfl, _, rfl, _, _, _, _, rfl, rfl, hk7, atI_nat (j := 6) rfl, _, rfl, _, _, _, _, rfl, rfl, hk7, atI_nat (j := 7) rfl, _, rfl, _, _, _, _, rfl, rfl, hk7, atI_nat (j := 8) rfl, _, rfl, _, _, _, _, rfl, rfl, hk7, atI_nat (j := 9) rfl, _, rfl, _, _, _, _, rfl, rfl, hk7, atI_nat (j := 10) rfl, _, rfl, _, _, _, _, rfl, rfl, hk7, atI_nat (j := 11) rfl, .ref x, [.int k0, .int k1, .int k2, .int k3, .int k4, .int k5, .int k6, .int k7, .int k8, .int k9, .int k10, .int k11], rfl, by simp, fun p7 hp7 => ?_⟩
  have g7 := Ex.new (o := .tup [.int k0, .int k1, .int k2, .int k3, .int k4, .int k5, .int k6, .int k7, .int k8, .int k9, .int k10, .int k11]) hp7
  refine ⟨x, p7, n, es, [k0, k1, k2, k3, k4, k5, k6, k7, k8, k9, k10, k11], rfl, hx.mono (ex6.trans g7), st_of upd_same, ok, hn, by omega, by omega, okk _ _, fun z7 H7a _ s7a hlay7 => ?_⟩
  have st7 := g7.trans s7a
  refine ⟨_, rfl, _, rfl, _, rfl, z7, f12, _, _, n, rfl, hlay7, sq_of (st7 _ _ hyf12), ves_ex (ExN.of st7) vf12, fun e he => ok.all e (keep_mem he), by omega, Nat.le_trans (keep_len _ _ _) (by omega), fun H7 t7 => ?_⟩
  refine ⟨true, rfl, iteF ?_⟩
  have ex7 : Ex H H7 := (ex6.trans st7).trans t7
  have hyf7 := t7 _ _ (st7 _ _ hyf7)
  have vf7 := ves_ex (ExN.of (st7.trans t7)) vf7
  have hyr7 := t7 _ _ (st7 _ _ hyr7)
  have vr7 := ves_ex (ExN.of (st7.trans t7)) vr7
  have hyf12 := t7 _ _ (st7 _ _ hyf12)
  have vf12 := ves_ex (ExN.of (st7.trans t7)) vf12
  have hyr12 := t7 _ _ (st7 _ _ hyr12)
  have vr12 := ves_ex (ExN.of (st7.trans t7)) vr12
  have hk8 := ex_l ex7 hkl
  refine ⟨_, rfl, x, dx, _, rfl, ex_slt ex7 hsl, _, rfl, _, _, _, _, rfl, rfl, hk8, atI_nat (j := 0) rfl, _, rfl, _, _, _, _, rfl, rfl, hk8, atI_nat (j := 1) rfl, _, rfl, _, _, _, _, rfl, rfl, hk8, atI_nat (j := 2) rfl, _, rfl, _, _, _, _, rfl, rfl, hk8, atI_nat (j := 3) rfl, _, rfl, _, _, _, _, rfl, rfl, hk8, atI_nat (j := 4) rfl, _, rfl, _, _, _, _, rfl, rfl, hk8, atI_nat (j := 5) rfl, _, rfl, _, _, _, _, rfl, rfl, hk8, atI_nat (j := 6) rfl, _, rfl, _, _, _, _, rfl, rfl, hk8, atI_nat (j := 7) rfl, _, rfl, _, _, _, _, rfl, rfl, hk8, atI_nat (j := 8) rfl, _, rfl, _, _, _, _, rfl, rfl, hk8, atI_nat (j := 9) rfl, _, rfl, _, _, _, _, rfl, rfl, hk8, atI_nat (j := 10) rfl, _, rfl, _, _, _, _, rfl, rfl, hk8, atI_nat (j := 11) rfl, .ref x, [.int k0, .int k1, .int k2, .int k3, .int k4, .int k5, .int k6, .int k7, .int k8, .int k9, .int k10, .int k11], rfl, by simp, fun p8 hp8 => ?_⟩
  have g8 := Ex.new (o := .tup [.int k0, .int k1, .int k2, .int k3, .int k4, .int k5, .int k6, .int k7, .int k8, .int k9, .int k10, .int k11]) hp8
  refine ⟨x, p8, n, es, [k0, k1, k2, k3, k4, k5, k6, k7, k8, k9, k10, k11], rfl, hx.mono (ex7.trans g8), st_of upd_same, ok, hn, by omega, by omega, okk _ _, fun z8 H8a _ s8a hlay8 => ?_⟩
  have st8 := g8.trans s8a
  refine ⟨_, rfl, _, rfl, _, rfl, z8, r12, _, _, n, rfl, hlay8, sq_of (st8 _ _ hyr12), ves_ex (ExN.of st8) vr12, fun e he => ok.all e (keep_mem he), by omega, Nat.le_trans (keep_len _ _ _) (by omega), fun H8 t8 => ?_⟩
  exact hQ H8 ((ex7.trans st8).trans t8)

end Kx

end

section
set_option Elab.async false
set_option linter.all false
set_option maxRecDepth 100000
set_option pp.maxSteps 400
set_option pp.deepTerms false
set_option maxHeartbeats 4000000
namespace Kx
open PySem PySem.Spec PyProof.Rows L2 Evl Pl
/-! ### the plan of merging, plain -/
theorem dif_len {K0 : List Int} {f g : Tb} (hp : K0.Pairwise (· < ·)) : (dif K0 f g).length ≤ K0.length := by
  rw [dif_eq hp]
  exact List.length_filterMap_le _ _
theorem difA_same {f : Tb} : ∀ {ks : List Int} {a : Int}, difA f f a ks = []
  | [], _ => rfl
  | k :: ks, a => by rw [difA_cons, if_pos rfl, difA_same]
theorem dif_same {K0 : List Int} {f : Tb} : dif K0 f f = [] := difA_same
structure Base2 (n : Nat) (K0 : List Int) (B T : Tb) : Prop where
  hn : 1 ≤ n
  hB : TbOk n B
  hT : TbOk n T
  sB : Sup K0 B
  sT : Sup K0 T
  hp : K0.Pairwise (· < ·)
  hl : K0.length ≤ 24
section
variable {n : Nat} {K0 : List Int} {B T : Tb} {col : Bool} {own : Int → Nat → Nat} {S : Nat → Bool} {i : Nat} {by_ : Str}
theorem part_dif (b : Base2 n K0 B T) (q : Nat) : (dif K0 B T).filterMap (partE col own q) = dif K0 B (asn col own B T fun j => j == q) := by
  rw [dif_eq (f := B) (g := T) b.hp, dif_eq b.hp, List.filterMap_filterMap]
  refine fm_congr fun k hk => ?_
  by_cases h : B k = T k
  · have e : B k = asn col own B T (fun j => j == q) k := (asnE_same h).symm
    rw [if_pos h, if_pos e]
    rfl
  · rw [if_neg h]
    show partE col own q ⟨rk B K0 k, B k, T k⟩ = _
    rw [part_at (own := own) (ow := own k) (by rw [key_of b.hB b.hT h])]
    rfl
theorem linked (b : Base2 n K0 B T) {f g : Tb} (hf : TbOk n f) (hg : TbOk n g) (sf : Sup K0 f) (sg : Sup K0 g) : (linksM (turnedM (dif K0 B f)) (dif K0 B g)).isSome = true := by
  rw [turned_dif, linksM_dif hf b.hB hg b.hp sf b.sB sg]
  rfl
theorem step_ok (b : Base2 n K0 B T) (hc : col = !decide (ByRow by_)) (hi : S i = false) :
    StepOk n by_ (dif K0 B (asn col own B T S)) (dif K0 B (asn col own B T fun j => j == i)) (dif K0 B (asn col own B T fun j => S j || j == i)) := by
  have hg := asn_ok (col := col) (own := own) (S := S) b.hn b.hB b.hT
  have hf := asn_ok (col := col) (own := own) (S := fun j => j == i) b.hn b.hB b.hT
  have hg' := asn_ok (col := col) (own := own) (S := fun j => S j || j == i) b.hn b.hB b.hT
  have sg := asn_sup (col := col) (own := own) (S := S) b.sB b.sT
  have sf := asn_sup (col := col) (own := own) (S := fun j => j == i) b.sB b.sT
  have sg' := asn_sup (col := col) (own := own) (S := fun j => S j || j == i) b.sB b.sT
  have em : movM (dif K0 B (asn col own B T fun j => j == i)) (dif K0 B (asn col own B T S)) = dif K0 (asn col own B T S) (asn col own B T fun j => S j || j == i) :=
    movM_dif b.hB hf hg b.hp b.sB sg (fun k h => asnE_step hi h) fun k => asnE_iff hi
  have z1 := dif_len (f := B) (g := asn col own B T S) b.hp
  have z2 := dif_len (f := B) (g := asn col own B T fun j => j == i) b.hp
  have := b.hl
  refine ⟨linked b hf hg sf sg, confl_none b.hB hf hg b.hp b.sB sg fun k p q h h2 => asnE_apart hc hi h h2, by rw [em]; exact dif_ok hg hg' b.hp, ⟨_, by rw [em]; exact linksM_dif b.hB hg hg' b.hp b.sB sg sg', joinL_lnkA⟩, dif_ok b.hB hg' b.hp, by omega, by omega⟩
theorem twice_cf (b : Base2 n K0 B T) (hc : col = !decide (ByRow by_)) (hi : S i = true) :
    (linksM (turnedM (dif K0 B (asn col own B T fun j => j == i))) (dif K0 B (asn col own B T S))).isSome = true ∧
    conflM by_ (dif K0 B (asn col own B T fun j => j == i)) (dif K0 B (asn col own B T S)) = (dif K0 B (asn col own B T fun j => j == i)).map (fun e => (e.p, e.key)) ∧
    (dif K0 B (asn col own B T fun j => j == i)).length + (dif K0 B (asn col own B T S)).length < 64 := by
  have hg := asn_ok (col := col) (own := own) (S := S) b.hn b.hB b.hT
  have hf := asn_ok (col := col) (own := own) (S := fun j => j == i) b.hn b.hB b.hT
  have sg := asn_sup (col := col) (own := own) (S := S) b.sB b.sT
  have sf := asn_sup (col := col) (own := own) (S := fun j => j == i) b.sB b.sT
  have z1 := dif_len (f := B) (g := asn col own B T S) b.hp
  have z2 := dif_len (f := B) (g := asn col own B T fun j => j == i) b.hp
  have := b.hl
  exact ⟨linked b hf hg sf sg, confl_all b.hB hf hg b.hp b.sB sg fun k p q h => asnE_twice hc hi h, by omega⟩
theorem step_none (b : Base2 n K0 B T) (hc : col = !decide (ByRow by_)) (hi : S i = true) (h0 : dif K0 B (asn col own B T fun j => j == i) = []) :
    StepOk n by_ (dif K0 B (asn col own B T S)) (dif K0 B (asn col own B T fun j => j == i)) (dif K0 B (asn col own B T S)) := by
  have hg := asn_ok (col := col) (own := own) (S := S) b.hn b.hB b.hT
  have sg := asn_sup (col := col) (own := own) (S := S) b.sB b.sT
  obtain ⟨h1, h2, h3⟩ := twice_cf (own := own) b hc hi
  have em : movM (dif K0 B (asn col own B T fun j => j == i)) (dif K0 B (asn col own B T S)) = dif K0 (asn col own B T S) (asn col own B T S) := by
    rw [h0, dif_same]
    rfl
  refine ⟨h1, by rw [h2, h0]; rfl, by rw [em]; exact dif_ok hg hg b.hp, ⟨_, by rw [em]; exact linksM_dif b.hB hg hg b.hp b.sB sg sg, joinL_lnkA⟩, dif_ok b.hB hg b.hp, h3, by omega⟩
end
/-- what is merged behind j steps -/
def seen (ord : List Nat) (j : Nat) : Nat → Bool := fun q => (ord.take (j + 1)).contains q
theorem seen_zero {o : Nat} {l : List Nat} : seen (o :: l) 0 = fun q => q == o := by
  funext q
  show [o].contains q = _
  rw [List.contains_cons]
  exact Bool.or_false _
theorem seen_succ {ord : List Nat} {j o : Nat} (h : ord[j + 1]? = some o) : seen ord (j + 1) = fun q => seen ord j q || q == o := by
  funext q
  show (ord.take (j + 1 + 1)).contains q = ((ord.take (j + 1)).contains q || q == o)
  rw [take_snoc h]
  by_cases z : q ∈ ord.take (j + 1)
  · rw [List.contains_iff_mem.mpr z, List.contains_iff_mem.mpr (List.mem_append_left _ z), Bool.true_or]
  · rw [show (ord.take (j + 1)).contains q = false from Bool.eq_false_iff.mpr fun z2 => z (List.contains_iff_mem.mp z2), Bool.false_or]
    by_cases e : q = o
    · rw [e, beq_self_eq_true, List.contains_iff_mem.mpr (List.mem_append_right _ (List.mem_singleton.mpr rfl))]
    · rw [beq_eq_false_iff_ne.mpr e]
      refine Bool.eq_false_iff.mpr fun z2 => ?_
      rcases List.mem_append.mp (List.contains_iff_mem.mp z2) with z3 | z3
      · exact z z3
      · exact e (List.mem_singleton.mp z3)
theorem seen_new {ord : List Nat} (nd : ord.Nodup) {j o : Nat} (h : ord[j + 1]? = some o) : seen ord j o = false := Bool.eq_false_iff.mpr fun z => nd_take nd h (List.contains_iff_mem.mp z)
theorem seen_old {ord : List Nat} {j i o : Nat} (h : ord[i]? = some o) (hi : i ≤ j) : seen ord j o = true := by
  refine List.contains_iff_mem.mpr ?_
  have hl := (List.getElem?_eq_some_iff.mp h).1
  refine List.mem_of_getElem? (i := i) ?_
  rw [List.getElem?_take_of_lt (by omega), h]

end Kx

end

section
set_option Elab.async false
set_option linter.all false
set_option maxRecDepth 100000
set_option pp.maxSteps 400
set_option pp.deepTerms false
set_option maxHeartbeats 4000000
namespace Kx
open PySem PySem.Spec PyProof.Rows L2 Evl Pl
/-! ### all but one address; orders; the plans -/
def del (x : Addr) (H : Hp) : Hp := fun c => if c = x then none else H c
theorem del_ne {x c : Addr} {H : Hp} (h : c ≠ x) : del x H c = H c := if_neg h
theorem del_of {x c : Addr} {H : Hp} {o : HO} (h : del x H c = some o) : c ≠ x ∧ H c = some o := by
  unfold del at h
  by_cases e : c = x
  · rw [if_pos e] at h
    cases h
  · rw [if_neg e] at h
    exact ⟨e, h⟩
theorem del_sub {x : Addr} {H : Hp} : Ex (del x H) H := fun c o h => (del_of h).2
theorem del_ex {x : Addr} {H H' : Hp} (e : Ex H H') : Ex (del x H) (del x H') := fun c o h => by
  obtain ⟨n, h⟩ := del_of h
  rw [del_ne n]
  exact e c o h
theorem del_exX {x : Addr} {H H' : Hp} (e : ExX x H H') : Ex (del x H) (del x H') := fun c o h => by
  obtain ⟨n, h⟩ := del_of h
  rw [del_ne n]
  exact e c o n h
theorem del_at {x c : Addr} {H : Hp} {o : HO} (n : c ≠ x) (h : H c = some o) : del x H c = some o := by
  rw [del_ne n]
  exact h
theorem del_exn {x : Addr} {H : Hp} {xs : List V} (h : H x = some (.lst xs)) : ExN H (del x H) := fun c o hc n => by
  refine del_at (fun z => ?_) hc
  rw [z, h] at hc
  rw [← Option.some.inj hc] at n
  rcases n with ⟨_, h⟩ | ⟨_, _, h⟩ <;> cases h
theorem layF_del {K : Fg} {H H' : Hp} {C x dx b D : Addr} {n : Nat} {es : List Ent} {xs ys : List V} (h : VLayF K H H' C x dx n es) (x1 : x ≠ b) (x2 : dx ≠ b) (x3 : x ≠ D) (x4 : dx ≠ D) (hb : H b ≠ none) (hD : H D ≠ none) (hb' : H' b = some (.lst xs)) (hD' : H' D = some (.lst ys)) :
    VLay K (del b (del D H')) C x n es := by
  obtain ⟨le, lk, us, h1, h2, h3, h4, h5, h6⟩ := h
  have e1 : le ≠ b := fun z => hb (z ▸ h5)
  have e2 : le ≠ D := fun z => hD (z ▸ h5)
  have e3 : lk ≠ b := fun z => hb (z ▸ h6)
  have e4 : lk ≠ D := fun z => hD (z ▸ h6)
  have n1 := del_exn hD'
  have hDb : del D H' b = some (.lst xs) ∨ b = D := by
    by_cases z : b = D
    · exact .inr z
    · exact .inl (del_at z hb')
  have n2 : ExN (del D H') (Kx.del b (del D H')) := by
    rcases hDb with z | z
    · exact del_exn z
    · intro c o hc _
      obtain ⟨q, hc⟩ := del_of hc
      rw [z]
      exact del_at q (del_at q hc)
  refine ⟨dx, le, lk, us, ?_, sq_of (del_at e1 (del_at e2 h2)), ves_ex (n1.trans n2) h3, sq_of (del_at e3 (del_at e4 h4))⟩
  rcases h1 with ⟨_, z⟩ | ⟨a1, a2⟩
  · cases z
  · exact .inr ⟨del_at x1 (del_at x3 a1), del_at x2 (del_at x4 a2)⟩
/-- an order of the parts -/
structure Ord (ord : List Nat) (m : Nat) : Prop where
  nd : ord.Nodup
  len : ord.length = m
  lt : ∀ q ∈ ord, q < m
  all : ∀ q, q < m → q ∈ ord
theorem ord_rot {t m : Nat} (h : t < m) : Ord ((List.range (m - t)).map (fun i => t + i) ++ List.range t) m := by
  refine ⟨?_, by rw [List.length_append, List.length_map, List.length_range, List.length_range]; omega, fun q hq => ?_, fun q hq => ?_⟩
  · rw [List.nodup_append]
    refine ⟨?_, List.nodup_range, fun x hx y hy z => ?_⟩
    · rw [List.nodup_iff_pairwise_ne, List.pairwise_map]
      exact List.Pairwise.imp (fun {a b} h z => h (by omega)) (List.nodup_iff_pairwise_ne.mp List.nodup_range)
    · obtain ⟨i, _, rfl⟩ := List.mem_map.mp hx
      have := List.mem_range.mp hy
      omega
  · rcases List.mem_append.mp hq with z | z
    · obtain ⟨i, hi, rfl⟩ := List.mem_map.mp z
      have := List.mem_range.mp hi
      omega
    · have := List.mem_range.mp z
      omega
  · by_cases z : q < t
    · exact List.mem_append_right _ (List.mem_range.mpr z)
    · exact List.mem_append_left _ (List.mem_map.mpr ⟨q - t, List.mem_range.mpr (by omega), by omega⟩)
theorem ord_rev {ord : List Nat} {m : Nat} (o : Ord ord m) : Ord ord.reverse m := ⟨List.pairwise_reverse.mpr (o.nd.imp fun h => Ne.symm h), by rw [List.length_reverse, o.len], fun q hq => o.lt q (List.mem_reverse.mp hq), fun q hq => List.mem_reverse.mpr (o.all q hq)⟩
def nat_ (c : Nat) : V := V.int (c : Int)
theorem rgV_nat {t m : Nat} : rgV (t : Int) (m : Int) = ((List.range (m - t)).map fun i => t + i).map nat_ := by
  unfold rgV
  have e : ((m : Int) - (t : Int)).toNat = m - t := by omega
  rw [e, List.map_map]
  refine List.map_congr_left fun i _ => ?_
  show V.int ((t : Int) + (i : Nat)) = V.int ((t + i : Nat) : Int)
  rw [Int.natCast_add]
theorem rgV_zero {t : Nat} : rgV 0 (t : Int) = (List.range t).map nat_ := by
  have h := rgV_nat (t := 0) (m := t)
  have e : (fun i => 0 + i) = fun i : Nat => i := by
    funext i
    omega
  rw [Nat.sub_zero, e, List.map_id'] at h
  exact h
section
variable {n m : Nat} {K0 : List Int} {B T : Tb} {col : Bool} {own : Int → Nat → Nat} {by_ : Str} {ord : List Nat}
theorem asn_all (b : Base2 n K0 B T) (o : Ord ord m) (hm : 1 ≤ m) (hown : ∀ k c, own k c < m) : asn col own B T (seen ord (m - 1)) = T := by
  funext k
  refine asnE_all (w := n) (orow_ok b.hB k) (orow_ok b.hT k) fun c => ?_
  show (ord.take (m - 1 + 1)).contains (own k c) = true
  rw [List.take_of_length_le (by rw [o.len]; omega)]
  exact List.contains_iff_mem.mpr (o.all _ (hown k c))
/-- a part, a partial sum -/
def partL (K0 : List Int) (B T : Tb) (col : Bool) (own : Int → Nat → Nat) (q : Nat) : List Ent := dif K0 B (asn col own B T fun j => j == q)
def sumR (K0 : List Int) (B T : Tb) (col : Bool) (own : Int → Nat → Nat) (ord : List Nat) (j : Nat) : List Ent := dif K0 B (asn col own B T (seen ord j))
theorem part_ok (b : Base2 n K0 B T) (q : Nat) : EntsOk n (partL K0 B T col own q) := dif_ok b.hB (asn_ok b.hn b.hB b.hT) b.hp
theorem part_len (b : Base2 n K0 B T) (q : Nat) : (partL K0 B T col own q).length ≤ 24 := Nat.le_trans (dif_len b.hp) b.hl
theorem sum_zero {o : Nat} {l : List Nat} : sumR K0 B T col own (o :: l) 0 = partL K0 B T col own o := by
  unfold sumR partL
  rw [seen_zero]
theorem sum_step (b : Base2 n K0 B T) (hc : col = !decide (ByRow by_)) (nd : ord.Nodup) {i o : Nat} (h : ord[i + 1]? = some o) : StepOk n by_ (sumR K0 B T col own ord i) (partL K0 B T col own o) (sumR K0 B T col own ord (i + 1)) := by
  have z := step_ok (own := own) b hc (seen_new nd h)
  unfold sumR partL
  rw [seen_succ h]
  exact z
end
def ad (xs : List Addr) (q : Nat) : Addr := xs.getD q 0
def Lays (K : Fg) (H : Hp) (n m : Nat) (xs : List Addr) (L : Nat → List Ent) : Prop := ∀ q, q < m → VLay K H (He.ga K "Layer") (ad xs q) n (L q)
theorem Lays.mono {K : Fg} {H H' : Hp} {n m : Nat} {xs : List Addr} {L : Nat → List Ent} (e : Ex H H') (h : Lays K H n m xs L) : Lays K H' n m xs L := fun q hq => (h q hq).mono e
theorem lays_all {K : Fg} {H : Hp} {n m : Nat} {xs : List Addr} {L : Nat → List Ent} (h : Lays K H n m xs L) : ∀ {is : List Nat}, (∀ q ∈ is, q < m) → All2 (IsLay K H n) (is.map fun q => V.ref (ad xs q)) (is.map L)
  | [], _ => .nil
  | q :: is, hi => .cons ⟨_, rfl, h q (hi q List.mem_cons_self)⟩ (lays_all h fun r hr => hi r (List.mem_cons_of_mem _ hr))
section
variable {K : Fg} {n m : Nat} {K0 : List Int} {B T : Tb} {col : Bool} {own : Int → Nat → Nat} {s : Str} {xs : List Addr} {H : Hp} {Q : VK} {E : XK} {p : Addr}
/-- all parts, in an order -/
theorem plan_all {o : Nat} {is : List Nat} (b : Base2 n K0 B T) (hc : col = !decide (ByRow s)) (hg : Good s) (hn : n ≤ 8) (od : Ord (o :: is) m) (hown : ∀ k c, own k c < m) (hL : Lays K H n m xs (partL K0 B T col own)) (hp : H p = none)
    (hQ : ∀ z H', Ex H H' → VLay K H' (He.ga K "Layer") z n (dif K0 B T) → Q (.ref z) H') : spMergedI K [.ref (ad xs o), .str s, .ref p] (upd H p (.tup (is.map fun q => V.ref (ad xs q)))) Q E := by
  have g := Ex.new (o := .tup (is.map fun q => V.ref (ad xs q))) hp
  have hl := od.len
  rw [List.length_cons] at hl
  refine ⟨ad xs o, p, is.map fun q => V.ref (ad xs q), s, n, is.map (partL K0 B T col own), sumR K0 B T col own (o :: is), is.length, rfl, st_of upd_same, lays_all (hL.mono g) fun q hq => od.lt q (List.mem_cons_of_mem _ hq), ?_, hg, ?_, fun e he => ?_, b.hn, by omega, fun i e hi he => ?_, .inl ⟨by rw [List.length_map], fun z H' e hz => hQ z H' (g.trans e) ?_⟩⟩
  · rw [sum_zero]
    exact hL.mono g o (od.lt o List.mem_cons_self)
  · rw [sum_zero]
    exact part_ok b o
  · obtain ⟨q, _, rfl⟩ := List.mem_map.mp he
    exact part_ok b q
  · rw [List.getElem?_map] at he
    obtain ⟨q, hq, rfl⟩ := Option.map_eq_some_iff.mp he
    exact sum_step b hc od.nd (by rw [List.getElem?_cons_succ]; exact hq)
  · have e1 : is.length = m - 1 := by omega
    unfold sumR at hz
    rw [e1, asn_all b od (by omega) hown] at hz
    exact hz
/-- all parts but the last, then one of them again -/
theorem plan_twice {o tw : Nat} {is : List Nat} (b : Base2 n K0 B T) (hc : col = !decide (ByRow s)) (hg : Good s) (hn : n ≤ 8) (nd : (o :: is).Nodup) (hlt : ∀ q ∈ o :: is, q < m) (htw : tw ∈ o :: is) (hL : Lays K H n m xs (partL K0 B T col own)) (hp : H p = none)
    (hQ : partL K0 B T col own tw = [] → ∀ z H', Ex H H' → Q (.ref z) H') (hE : partL K0 B T col own tw ≠ [] → CfE K H ((partL K0 B T col own tw).map fun e => (e.p, e.key)) E) :
    spMergedI K [.ref (ad xs o), .str s, .ref p] (upd H p (.tup ((is ++ [tw]).map fun q => V.ref (ad xs q)))) Q E := by
  have g := Ex.new (o := .tup ((is ++ [tw]).map fun q => V.ref (ad xs q))) hp
  obtain ⟨v, hv, ev⟩ := List.mem_iff_getElem.mp htw
  rw [List.length_cons] at hv
  have hin : (o :: is)[v]? = some tw := by rw [List.getElem?_eq_getElem (by rw [List.length_cons]; exact hv), ev]
  have hso : seen (o :: is) is.length tw = true := seen_old hin (by omega)
  have hlt2 : ∀ q ∈ is ++ [tw], q < m := fun q hq => by
    rcases List.mem_append.mp hq with z | z
    · exact hlt q (List.mem_cons_of_mem _ z)
    · rw [List.mem_singleton.mp z]
      exact hlt tw htw
  have steps : ∀ i e, i < is.length → ((is ++ [tw]).map (partL K0 B T col own))[i]? = some e → StepOk n s (sumR K0 B T col own (o :: is) i) e (sumR K0 B T col own (o :: is) (i + 1)) := fun i e hi he => by
    rw [List.getElem?_map, List.getElem?_append_left hi] at he
    obtain ⟨q, hq, rfl⟩ := Option.map_eq_some_iff.mp he
    exact sum_step b hc nd (by rw [List.getElem?_cons_succ]; exact hq)
  have last : ((is ++ [tw]).map (partL K0 B T col own))[is.length]? = some (partL K0 B T col own tw) := by
    rw [List.getElem?_map, List.getElem?_append_right (Nat.le_refl _), Nat.sub_self]
    rfl
  have h0 : VLay K (upd H p (.tup ((is ++ [tw]).map fun q => V.ref (ad xs q)))) (He.ga K "Layer") (ad xs o) n (sumR K0 B T col own (o :: is) 0) := by
    rw [sum_zero]
    exact hL.mono g o (hlt o List.mem_cons_self)
  have ok0 : EntsOk n (sumR K0 B T col own (o :: is) 0) := by
    rw [sum_zero]
    exact part_ok b o
  have okp : ∀ e ∈ (is ++ [tw]).map (partL K0 B T col own), EntsOk n e := fun e he => by
    obtain ⟨q, _, rfl⟩ := List.mem_map.mp he
    exact part_ok b q
  by_cases he : partL K0 B T col own tw = []
  · refine ⟨ad xs o, p, (is ++ [tw]).map fun q => V.ref (ad xs q), s, n, (is ++ [tw]).map (partL K0 B T col own), fun j => if j ≤ is.length then sumR K0 B T col own (o :: is) j else sumR K0 B T col own (o :: is) is.length, is.length + 1, rfl, st_of upd_same, lays_all (hL.mono g) hlt2, ?_, hg, ?_, okp, b.hn, by omega, fun i e hi hie => ?_, .inl ⟨by rw [List.length_map, List.length_append]; rfl, fun z H' e _ => hQ he z H' (g.trans e)⟩⟩
    · show VLay K _ _ _ n (if 0 ≤ is.length then _ else _)
      rw [if_pos (Nat.zero_le _)]
      exact h0
    · show EntsOk n (if 0 ≤ is.length then _ else _)
      rw [if_pos (Nat.zero_le _)]
      exact ok0
    · show StepOk n s (if i ≤ is.length then _ else _) e (if i + 1 ≤ is.length then _ else _)
      by_cases z : i < is.length
      · rw [if_pos (by omega), if_pos (by omega)]
        exact steps i e z hie
      · have ei : i = is.length := by omega
        subst ei
        rw [last] at hie
        rw [← Option.some.inj hie, if_pos (Nat.le_refl _), if_neg (by omega)]
        exact step_none b hc hso he
  · obtain ⟨c1, c2, c3⟩ := twice_cf (own := own) b hc hso
    refine ⟨ad xs o, p, (is ++ [tw]).map fun q => V.ref (ad xs q), s, n, (is ++ [tw]).map (partL K0 B T col own), sumR K0 B T col own (o :: is), is.length, rfl, st_of upd_same, lays_all (hL.mono g) hlt2, h0, hg, ok0, okp, b.hn, by omega, steps, .inr ⟨by rw [List.length_map, List.length_append]; rfl, _, last, c1, ?_, c3, ?_⟩⟩
    · show conflM s (partL K0 B T col own tw) (sumR K0 B T col own (o :: is) is.length) ≠ []
      unfold partL sumR
      rw [c2]
      intro z
      exact he (List.map_eq_nil_iff.mp z)
    · have e2 : conflM s (partL K0 B T col own tw) (sumR K0 B T col own (o :: is) is.length) = (partL K0 B T col own tw).map fun e => (e.p, e.key) := c2
      rw [e2]
      exact fun d t ws H' h1 h2 h3 h4 h5 => hE he d t ws H' (fresh_back g h1) (g.trans h2) h3 h4 h5
end

end Kx

end

section
set_option Elab.async false
set_option linter.all false
set_option maxRecDepth 100000
set_option pp.maxSteps 400
set_option pp.deepTerms false
set_option maxHeartbeats 4000000
namespace Kx
open PySem PySem.Spec PyProof.Rows L2 Evl Pl
/-! ### the law -/
theorem del_upd {x : Addr} {H : Hp} {o : HO} : del x (upd H x o) = del x H := by
  funext c
  unfold del
  by_cases h : c = x
  · rw [if_pos h, if_pos h]
  · rw [if_neg h, if_neg h, upd_ne h]
theorem ad_old {xs : List Addr} {x : Addr} {q : Nat} (h : q < xs.length) : ad (xs ++ [x]) q = ad xs q := by
  unfold ad
  rw [List.getD_eq_getElem?_getD, List.getD_eq_getElem?_getD, List.getElem?_append_left h]
theorem ad_new {xs : List Addr} {x : Addr} : ad (xs ++ [x]) xs.length = x := by
  unfold ad
  rw [List.getD_eq_getElem?_getD, List.getElem?_append_right (Nat.le_refl _), Nat.sub_self]
  rfl
theorem ad_get {xs : List Addr} {q : Nat} (h : q < xs.length) : xs[q]? = some (ad xs q) := by
  unfold ad
  rw [List.getD_eq_getElem?_getD, List.getElem?_eq_getElem h]
  rfl
/-- what the law keeps, but for its box -/
structure Lw (K : Fg) (G : Hp) (n m : Nat) (el P ls : Addr) (vs : List V) (es : List Ent) (ps xs : List Addr) (L : Nat → List Ent) : Prop where
  hel : G el = some (.lst vs)
  hvs : All2 (VE K G) vs es
  hP : G P = some (.lst (ps.map V.ref))
  hps : ∀ q, q < m → ∃ us, G (ad ps q) = some (.lst us) ∧ All2 (VE K G) us (L q)
  lps : ps.length = m
  hls : G ls = some (.lst (xs.map V.ref))
  lxs : xs.length = m
  hxs : Lays K G n m xs L
theorem Lw.mono {K : Fg} {G G' : Hp} {n m : Nat} {el P ls : Addr} {vs : List V} {es : List Ent} {ps xs : List Addr} {L : Nat → List Ent} (w : Lw K G n m el P ls vs es ps xs L) (e : Ex G G') : Lw K G' n m el P ls vs es ps xs L :=
  ⟨e _ _ w.hel, ves_ex (ExN.of e) w.hvs, e _ _ w.hP, fun q hq => by
    obtain ⟨us, h1, h2⟩ := w.hps q hq
    exact ⟨us, e _ _ h1, ves_ex (ExN.of e) h2⟩, w.lps, e _ _ w.hls, w.lxs, w.hxs.mono e⟩
theorem nat_at {l : List Nat} {i : Nat} (h : i < l.length) : l[i]? = some (l.getD i 0) := by
  rw [List.getD_eq_getElem?_getD, List.getElem?_eq_getElem h]
  rfl
theorem nat_get {l : List Nat} {i q : Nat} (h : l[i]? = some q) : (l.map nat_)[i]? = some (V.int (q : Int)) := by
  rw [List.getElem?_map, h]
  rfl
theorem ref_get {xs : List Addr} {q : Nat} (h : q < xs.length) : (xs.map V.ref)[q]? = some (V.ref (ad xs q)) := by
  rw [List.getElem?_map, ad_get h]
  rfl
theorem rev_eq {l : List Nat} {m : Nat} (h : l.length = m) : ((List.range m).map fun i => l.getD (m - 1 - i) 0) = l.reverse := by
  refine List.ext_getElem? fun i => ?_
  by_cases hi : i < m
  · rw [List.getElem?_map, List.getElem?_range hi, List.getElem?_reverse (by omega), h, nat_at (by omega)]
    rfl
  · rw [List.getElem?_eq_none (by rw [List.length_map, List.length_range]; omega), List.getElem?_eq_none (by rw [List.length_reverse]; omega)]
theorem take_eq {l : List Nat} {k : Nat} (h : k ≤ l.length) : ((List.range k).map fun i => l.getD i 0) = l.take k := by
  refine List.ext_getElem? fun i => ?_
  by_cases hi : i < k
  · rw [List.getElem?_map, List.getElem?_range hi, List.getElem?_take_of_lt hi, nat_at (by omega)]
    rfl
  · rw [List.getElem?_eq_none (by rw [List.length_map, List.length_range]; omega), List.getElem?_eq_none (by rw [List.length_take]; omega)]
theorem keep_ok {n : Nat} {K0 : List Int} {B T : Tb} (b : Base2 n K0 B T) (ks : List Int) (c : Bool) : EntsOk n (keepM ks c (dif K0 B T)) := by
  have e : keepM ks c (dif K0 B T) = dif K0 B fun k => if (ks.contains k == c) = true then T k else B k := by
    rw [← keepF_eq, dif_eq (g := T) b.hp, dif_eq b.hp, List.filterMap_filterMap]
    refine fm_congr fun k hk => ?_
    by_cases h : B k = T k
    · rw [if_pos h]
      by_cases z : (ks.contains k == c) = true
      · rw [if_pos z, if_pos h]
        rfl
      · rw [if_neg z, if_pos rfl]
        rfl
    · rw [if_neg h]
      show keepF ks c ⟨rk B K0 k, B k, T k⟩ = _
      unfold keepF
      rw [key_of b.hB b.hT h]
      by_cases z : (ks.contains k == c) = true
      · rw [if_pos z, if_pos z, if_neg h]
      · rw [if_neg z, if_neg z, if_pos rfl]
  rw [e]
  refine dif_ok b.hB (fun k r hr => ?_) b.hp
  by_cases z : (ks.contains k == c) = true
  · rw [if_pos z] at hr
    exact b.hT k r hr
  · rw [if_neg z] at hr
    exact b.hB k r hr
def spLaw (K : Fg) : Sp := fun vs H Q _ => ∃ (a : Addr) (ns : List Int), vs = [.ref a] ∧ SqL K H a (vis ns) ∧ ns.length ≤ 63 ∧ ∀ H', Q (.bl true) H'
theorem walk_law {w : World} {K : Fg} {mg : Str → Option Value} {base : Heap} (T : Top K mg) (D__law_width : Df PR w K mg base 2 "_law_width" [] (spWidth K)) (D__law_number : Df PR w K mg base 2 "_law_number" [] (spNum K)) (D__law_take : Df PR w K mg base 1 "_law_take" [] (spTake K)) (D__law_rows : Df PR w K mg base 3 "_law_rows" [] (spLRows K)) (D__law_target : Df PR w K mg base 4 "_law_target" [] (spLTarget K)) (D__law_entries : Df PR w K mg base 2 "_law_entries" [] (spLEntries K)) (D__law_shared_out : Df PR w K mg base 2 "_law_shared_out" [] (spShared K)) (M_Layer2 : Mkr PR w K mg base 6 (He.ga K "Layer") [] (spLayInitF K)) (D__law_is_layer : Df PR w K mg base 6 "_law_is_layer" [] (spLLay K)) (D__law_merged : Df PR w K mg base 13 "_law_merged" [] (spLMerged K)) (D__law_key : Df PR w K mg base 1 "_law_key" [] (spKey K)) (D__law_conflict : Df PR w K mg base 14 "_law_conflict" [] (spLConf K)) (D__law_are_pairs : Df PR w K mg base 3 "_law_are_pairs" [] (spLPairs K)) (D__law_parts : Df PR w K mg base 10 "_law_parts" [] (spLParts K)) : Walked PR w K mg base 15 ["script", "box", "width", "base", "entries", "rule", "many", "parts", "ls", "turn", "order", "k", "again", "twice", "pairs", "told", "ks", "part", "entry"] "law" s_law (He.ga K "law") ((spLaw K)) := by
  intro cdv A outer s H vs Q E hr h
  obtain ⟨a, ns, rfl, hs, hlen, hQ⟩ := h
  refine ⟨_, (pss_cons (ps_set (i := 1) sc_law.nd rfl (Or.inl rfl) (pe_lst (pa_cons pe_int (pa_cons pe_int pa_nil))))
    (pss_cons (ps_set (i := 2) sc_law.nd rfl (Or.inr rfl) (pe_df D__law_width (hr.mono (by decide)) (by rfl) passLA (pa_cons (pv 0) (pa_cons (pv 1) pa_nil))))
    (pss_cons (ps_set (i := 3) sc_law.nd rfl (Or.inl rfl) (pe_df D__law_rows (hr.mono (by decide)) (by rfl) passLA (pa_cons (pv 0) (pa_cons (pv 1) (pa_cons (pv 2) (pa_cons pe_int pa_nil))))))
    (pss_cons (ps_set (i := 4) sc_law.nd rfl (Or.inl rfl) (pe_df D__law_entries (hr.mono (by decide)) (by rfl) passLA (pa_cons (pv 3) (pa_cons (pe_df D__law_target (hr.mono (by decide)) (by rfl) passLA (pa_cons (pv 0) (pa_cons (pv 1) (pa_cons (pv 3) (pa_cons (pv 2) (pa_cons pe_int pa_nil)))))) pa_nil))))
    (pss_cons (ps_set (i := 5) sc_law.nd rfl (Or.inl rfl) (pe_ix ix_list (pe_lst (pa_cons pe_str (pa_cons pe_str pa_nil))) (pe_df D__law_take (hr.mono (by decide)) (by rfl) passLA (pa_cons (pv 0) (pa_cons (pv 1) (pa_cons pe_int pa_nil)))) (fun _ _ => rfl)))
    (pss_cons (ps_set (i := 6) sc_law.nd rfl (Or.inr rfl) (pe_op op_add pe_int (pe_df D__law_take (hr.mono (by decide)) (by rfl) passLA (pa_cons (pv 0) (pa_cons (pv 1) (pa_cons pe_int pa_nil))))))
    (pss_cons (ps_set (i := 7) sc_law.nd rfl (Or.inr rfl) (pe_df D__law_shared_out (hr.mono (by decide)) (by rfl) passLA (pa_cons (pv 0) (pa_cons (pv 1) (pa_cons (pv 4) (pa_cons (pv 6) (pa_cons (pv 5) pa_nil)))))))
    (pss_cons (ps_set (i := 8) sc_law.nd rfl (Or.inr rfl) (pe_lc (own := [("part", 17)]) (g := gName 17) (tt := tYes) rfl sc_law.nd (pi_list (pv 7)) (blkOk_by (own := [("part", 17)]) (N := ["script", "box", "width", "base", "entries", "rule", "many", "parts", "ls", "turn", "order", "k", "again", "twice", "pairs", "told", "ks", "part", "entry"]) (sc := defScope s_law) (by decide +kernel)) (fun _ _ _ _ _ => (pg_name (i := 17) sc_law.nd rfl (Or.inl rfl))) (fun _ _ _ _ _ => pts_nil) (fun _ _ _ _ _ => (pe_mk M_Layer2 (hr.mono (by decide)) (by rfl) T.g_Layer passLA (pa_cons (pv 2) (pa_cons (pv 17) pa_nil))))))
    (pss_cons (ps_set (i := 9) sc_law.nd rfl (Or.inl rfl) (pe_df D__law_take (hr.mono (by decide)) (by rfl) passLA (pa_cons (pv 0) (pa_cons (pv 1) (pa_cons (pv 6) pa_nil)))))
    (pss_cons (ps_set (i := 10) sc_law.nd rfl (Or.inr rfl) (pe_op op_cat (pe_listRg rfl (by rfl) T.b_list (prg_2 (by rfl) T.b_range (pv 9) (pv 6))) (pe_listRg rfl (by rfl) T.b_list (prg_1 (by rfl) T.b_range (pv 9)))))
    (pss_cut (ps_if (pt_cmpR op_eq (pe_df D__law_take (hr.mono (by decide)) (by rfl) passLA (pa_cons (pv 0) (pa_cons (pv 1) (pa_cons pe_int pa_nil)))) pe_int (nomark _)) (pss_one (ps_set (i := 10) sc_law.nd rfl (Or.inr rfl) (pe_lc (own := [("k", 11)]) (g := gName 11) (tt := tYes) rfl sc_law.nd (pi_range1 rfl T.b_range (pa_cons (pv 6) pa_nil)) (blkOk_by (own := [("k", 11)]) (N := ["script", "box", "width", "base", "entries", "rule", "many", "parts", "ls", "turn", "order", "k", "again", "twice", "pairs", "told", "ks", "part", "entry"]) (sc := defScope s_law) (by decide +kernel)) (fun _ _ _ _ _ => (pg_name (i := 11) sc_law.nd rfl (Or.inl rfl))) (fun _ _ _ _ _ => pts_nil) (fun _ _ _ _ _ => (pe_ix (r := rIxL K) ix_list (pv 10) (pe_op op_sub (pe_op op_sub (pv 6) pe_int) (pv 11)) (fun _ _ => rfl)))))) pss_nil)
    (pss_cons (ps_if (pt_not (pt_val (pe_df D__law_is_layer (hr.mono (by decide)) (by rfl) passLA (pa_cons (pe_df D__law_merged (hr.mono (by decide)) (by rfl) passLA (pa_cons (pe_lc (own := [("k", 11)]) (g := gName 11) (tt := tYes) rfl sc_law.nd (pi_list (pv 10)) (blkOk_by (own := [("k", 11)]) (N := ["script", "box", "width", "base", "entries", "rule", "many", "parts", "ls", "turn", "order", "k", "again", "twice", "pairs", "told", "ks", "part", "entry"]) (sc := defScope s_law) (by decide +kernel)) (fun _ _ _ _ _ => (pg_name (i := 11) sc_law.nd rfl (Or.inl rfl))) (fun _ _ _ _ _ => pts_nil) (fun _ _ _ _ _ => (pe_ix (r := rIxL K) ix_list (pv 8) (pv 11) (fun _ _ => rfl)))) (pa_cons (pv 5) pa_nil))) (pa_cons (pv 2) (pa_cons (pv 4) pa_nil)))))) (pss_one (ps_ret pe_bl)) pss_nil)
    (pss_cons (ps_setLc (i := 12) (own := [("k", 11)]) (g := gName 11) (tt := tYes) rfl sc_law.nd rfl rfl (sw_true rfl rfl rfl (by decide +kernel)) (pi_range1 rfl T.b_range (pa_cons (pe_op op_sub (pv 6) pe_int) pa_nil)) (blkOk_by (own := [("k", 11)]) (N := ["script", "box", "width", "base", "entries", "rule", "many", "parts", "ls", "turn", "order", "k", "again", "twice", "pairs", "told", "ks", "part", "entry"]) (sc := defScope s_law) (by decide +kernel)) (fun _ _ _ _ _ => (pg_name (i := 11) sc_law.nd rfl (Or.inl rfl))) (fun _ _ _ _ _ => pts_nil) (fun _ _ _ _ _ => (pe_ix (r := rIxL K) ix_list (pv 10) (pv 11) (fun _ _ => rfl))))
    (pss_cons (ps_set (i := 13) sc_law.nd rfl (Or.inl rfl) (pe_ix ix_list (pv 12) (pe_df D__law_take (hr.mono (by decide)) (by rfl) passLA (pa_cons (pv 0) (pa_cons (pv 1) (pa_cons (pe_op op_sub (pv 6) pe_int) pa_nil)))) (fun _ _ => rfl)))
    (pss_cons (ps_setLc (i := 14) (own := [("entry", 18)]) (g := gName 18) (tt := tYes) rfl sc_law.nd rfl rfl (sw_true rfl rfl rfl (by decide +kernel)) (pi_list (pe_ix ix_list (pv 7) (pv 13) (fun _ _ => rfl))) (blkOk_by (own := [("entry", 18)]) (N := ["script", "box", "width", "base", "entries", "rule", "many", "parts", "ls", "turn", "order", "k", "again", "twice", "pairs", "told", "ks", "part", "entry"]) (sc := defScope s_law) (by decide +kernel)) (fun _ _ _ _ _ => (pg_name (i := 18) sc_law.nd rfl (Or.inl rfl))) (fun _ _ _ _ _ => pts_nil) (fun _ _ _ _ _ => (pe_tup (pa_cons (pe_ix (r := rIxT K) ix_tup (pv 18) pe_int (fun _ _ => rfl)) (pa_cons (pe_df D__law_key (hr.mono (by decide)) (by rfl) passLA (pa_cons (pv 18) pa_nil)) pa_nil)))))
    (pss_cut (ps_set (i := 15) sc_law.nd rfl (Or.inl rfl) (pe_df D__law_conflict (hr.mono (by decide)) (by rfl) passLA (pa_cons (pe_lc (own := [("k", 11)]) (g := gName 11) (tt := tYes) rfl sc_law.nd (pi_list (pe_op op_cat (pv 12) (pe_lst (pa_cons (pv 13) pa_nil)))) (blkOk_by (own := [("k", 11)]) (N := ["script", "box", "width", "base", "entries", "rule", "many", "parts", "ls", "turn", "order", "k", "again", "twice", "pairs", "told", "ks", "part", "entry"]) (sc := defScope s_law) (by decide +kernel)) (fun _ _ _ _ _ => (pg_name (i := 11) sc_law.nd rfl (Or.inl rfl))) (fun _ _ _ _ _ => pts_nil) (fun _ _ _ _ _ => (pe_ix (r := rIxL K) ix_list (pv 8) (pv 11) (fun _ _ => rfl)))) (pa_cons (pv 5) pa_nil))))
    (pss_cut (ps_if (PW.pt (pw_or (PW.pt (pw_and (pt_cmpR op_gt (pe_callB call_len_seq (by rfl) T.b_len (by decide +kernel) (pa_cons (pv 14) pa_nil)) pe_int (nomark _)) (pw_and1 (pt_not (pt_val (pe_df D__law_are_pairs (hr.mono (by decide)) (by rfl) passLA (pa_cons (pv 15) (pa_cons (pv 14) pa_nil)))))))) (pw_or1 (PW.pt (pw_and (pt_cmpR op_eq (pe_callB call_len_seq (by rfl) T.b_len (by decide +kernel) (pa_cons (pv 14) pa_nil)) pe_int (nomark _)) (pw_and1 (pt_cmpR op_notN (pv 15) pe_non (nomark _)))))))) (pss_one (ps_ret pe_bl)) pss_nil)
    (pss_cons (ps_if (pt_not (pt_val (pe_callB (cr_all rfl) (by rfl) T.b_all (by decide +kernel) (pa_cons (pe_lc (own := [("k", 11)]) (g := gName 11) (tt := tYes) rfl sc_law.nd (pi_range1 rfl T.b_range (pa_cons (pv 6) pa_nil)) (blkOk_by (own := [("k", 11)]) (N := ["script", "box", "width", "base", "entries", "rule", "many", "parts", "ls", "turn", "order", "k", "again", "twice", "pairs", "told", "ks", "part", "entry"]) (sc := defScope s_law) (by decide +kernel)) (fun _ _ _ _ _ => (pg_name (i := 11) sc_law.nd rfl (Or.inl rfl))) (fun _ _ _ _ _ => pts_nil) (fun _ _ _ _ _ => (pe_df D__law_is_layer (hr.mono (by decide)) (by rfl) passLA (pa_cons (pe_ix (r := rIxL K) ix_list (pv 8) (pv 11) (fun _ _ => rfl)) (pa_cons (pv 2) (pa_cons (pe_ix (r := rIxL K) ix_list (pv 7) (pv 11) (fun _ _ => rfl)) pa_nil)))))) pa_nil)))) (pss_one (ps_ret pe_bl)) pss_nil)
    (pss_cons (ps_set (i := 16) sc_law.nd rfl (Or.inl rfl) (pe_lst pa_nil))
    (pss_cons (ps_for poOf rfl (pi_range1 rfl T.b_range (pa_cons pe_int pa_nil)) (pg_name (i := 11) sc_law.nd rfl (Or.inl rfl)) (pss_one (ps_if (PW.pt (pw_and (pt_cmpR op_gt (pe_callB call_len_seq (by rfl) T.b_len (by decide +kernel) (pa_cons (pv 4) pa_nil)) pe_int (nomark _)) (pw_and1 (pt_cmpR op_gt (pe_df D__law_take (hr.mono (by decide)) (by rfl) passLA (pa_cons (pv 0) (pa_cons (pv 1) (pa_cons pe_int pa_nil)))) pe_int (nomark _))))) (pss_one (ps_expr (pe_bm PySem.F.plainAttrs_list PySem.F.slot_list_append PySem.F.type_list_append mt_append (pv 16) (pa_cons (pe_df D__law_key (hr.mono (by decide)) (by rfl) passLA (pa_cons (pe_ix ix_list (pv 4) (pe_df D__law_take (hr.mono (by decide)) (by rfl) passLA (pa_cons (pv 0) (pa_cons (pv 1) (pa_cons (pe_callB call_len_seq (by rfl) T.b_len (by decide +kernel) (pa_cons (pv 4) pa_nil)) pa_nil)))) (fun _ _ => rfl)) pa_nil)) pa_nil)))) (pss_one (ps_expr (pe_bm PySem.F.plainAttrs_list PySem.F.slot_list_append PySem.F.type_list_append mt_append (pv 16) (pa_cons (pe_df D__law_number (hr.mono (by decide)) (by rfl) passLA (pa_cons (pv 0) (pa_cons (pv 1) pa_nil))) pa_nil)))))))
    (pss_one (ps_ret (pe_df D__law_parts (hr.mono (by decide)) (by rfl) passLA (pa_cons (pe_mk M_Layer2 (hr.mono (by decide)) (by rfl) T.g_Layer passLA (pa_cons (pv 2) (pa_cons (pv 4) pa_nil))) (pa_cons (pv 2) (pa_cons (pv 4) (pa_cons (pv 16) pa_nil))))))))))))))))))))))))))), ?_⟩
  refine ⟨sz2, fun b hb => ?_⟩
  have f0 := Ex.new (o := .lst [.int 0, .int 0]) hb
  have nab : a ≠ b ∨ ∀ H, SqL K H a (vis ns) := by
    rcases hs with (h | ⟨u, h⟩) | h
    · exact .inl (ne_of_none h hb)
    · exact .inl (ne_of_none h hb)
    · exact .inr fun H => .inr h
  have hB : Box K (upd H b (.lst [.int 0, .int 0])) a b ns := ⟨nab, ex_l f0 hs, hlen, 0, 0, upd_same, by decide, by decide⟩
  refine ⟨_, rfl, _, rfl, a, b, ns, rfl, hB, fun n H1 hn hn8 e1 hB1 => ?_⟩
  refine ⟨_, rfl, _, rfl, _, rfl, a, b, ns, n, rfl, hB1, hn, hn8, fun c us rs H2 hc ncb e2 hB2 hc2 hus okr hzr => ?_⟩
  refine ⟨_, rfl, _, rfl, _, rfl, _, rfl, _, rfl, a, b, c, ns, n, us, rs, rfl, hB2, ncb, hc2, hus, okr, hzr, hn, hn8, fun d ws ts H3 hd ndb e3 hB3 hd3 hws okt hzt => ?_⟩
  have hc3 := e3 _ _ ncb hc2
  have hus3 := vrs_exN (hB2.exn e3) hus
  refine ⟨c, d, us, ws, rs, ts, n, rfl, hc3, hd3, hus3, hws, okr, okt, hn, hzr, hzt, fun el vs H4 hel e4 hel4 hvs => ?_⟩
  have hB4 := hB3.ex e4
  have nelb : el ≠ b := Ne.symm (box_nb hB3 hel)
  have b2 : Base2 n (keysU ((rs ++ ts).map Rwv.key)) (findR rs) (findR ts) := ⟨hn, rows_tb okr, rows_tb okt, rows_sup fun r hr => mem_keysU.mpr (List.mem_map.mpr ⟨r, List.mem_append_left _ hr, rfl⟩), rows_sup fun r hr => mem_keysU.mpr (List.mem_map.mpr ⟨r, List.mem_append_right _ hr, rfl⟩), pw_keysU, by
    have := keysU_len ((rs ++ ts).map Rwv.key)
    rw [List.length_map, List.length_append] at this
    omega⟩
  generalize keysU ((rs ++ ts).map Rwv.key) = K0 at hvs b2
  generalize findR rs = B at hvs b2
  generalize findR ts = T' at hvs b2
  have okE : EntsOk n (dif K0 B T') := dif_ok b2.hB b2.hT b2.hp
  have les : (dif K0 B T').length ≤ 24 := Nat.le_trans (dif_len b2.hp) b2.hl
  refine ⟨sz2, fun p hp => ?_⟩
  have g5 := Ex.new (o := .lst [.str ("row" : Str), .str ("column" : Str)]) hp
  have npb := box_nb hB4 hp
  refine ⟨_, rfl, _, rfl, a, b, ns, 2, rfl, hB4.ex g5, by decide, by decide, fun v H5 v0 v1 e5 hB5 => ?_⟩
  obtain ⟨y, hy, hm⟩ := list_at (xs := [.str ("row" : Str), .str ("column" : Str)]) v0 (by show v < 2; exact v1)
  have hi : ∃ s : Str, y = .str s ∧ Good s := by
    simp only [List.mem_cons, List.not_mem_nil, or_false] at hm
    rcases hm with h | h
    · exact ⟨_, h, .inl rfl⟩
    · exact ⟨_, h, .inr rfl⟩
  obtain ⟨s', rfl, hgood⟩ := hi
  refine ⟨_, _, _, _, rfl, rfl, sq_of (e5 _ _ (Ne.symm npb) upd_same), atI_int v0 hy, ?_⟩
  refine ⟨_, rfl, _, rfl, a, b, ns, 3, rfl, hB5, by decide, by decide, fun u H6 u0 u1 e6 hB6 => ?_⟩
  have hel6 := e6 _ _ nelb (e5 _ _ nelb (g5 _ _ hel4))
  have hvs6 := ves_ex (((ExN.of g5).trans ((hB4.ex g5).exn e5)).trans (hB5.exn e6)) hvs
  obtain ⟨m, hm, hm6, hm8⟩ : ∃ m : Nat, 6 + u = (m : Int) ∧ 6 ≤ m ∧ m ≤ 8 := ⟨(6 + u).toNat, by omega, by omega, by omega⟩
  refine ⟨_, _, rfl, rfl, ?_⟩
  dsimp only
  rw [hm]
  refine ⟨_, rfl, _, rfl, _, rfl, _, rfl, _, rfl, a, b, el, ns, vs, dif K0 B T', n, m, s', rfl, hB6, nelb, hel6, hvs6, okE.all, les, chain_keys okE.ord, hn8, by omega, hm8, hgood, fun P ps own H7 S hown t7 => ?_⟩
  have hLq : ∀ q, (dif K0 B T').filterMap (partE (!decide (ByRow s')) own q) = partL K0 B T' (!decide (ByRow s')) own q := fun q => part_dif b2 q
  have hpq : ∀ q, q < m → ∃ us, H7 (ad ps q) = some (.lst us) ∧ All2 (VE K H7) us (partL K0 B T' (!decide (ByRow s')) own q) := fun q hq => by
    have h := t7.hp q _ (ad_get (by rw [S.len]; exact hq))
    rw [hLq] at h
    exact h
  have hel7 := t7.hel S
  have hes7 := t7.hes
  have hP7 := t7.hP
  have hB7 := t7.box
  have nPb : P ≠ b := Ne.symm (box_nb S.box S.fP)
  have npsb : ∀ q, q < m → ad ps q ≠ b := fun q hq => Ne.symm (box_nb S.box (S.fp _ (List.mem_of_getElem? (ad_get (by rw [S.len]; exact hq)))))
  have lps := S.len
  clear t7 S hLq
  obtain ⟨col, hcol⟩ : ∃ c, c = !decide (ByRow s') := ⟨_, rfl⟩
  simp only [← hcol] at hpq
  obtain ⟨_, _, _, bl, bt, hb7, _, _⟩ := id hB7
  refine ⟨_, rfl, P, rfl, ⟨_, sq_of hP7⟩, fun D hD => ?_⟩
  have nbD := box_nb hB7 hD
  refine lc_list (xs := ps.map V.ref) (fun i H' => Ex H7 H' ∧ ∃ xs : List Addr, H' D = some (.lst (xs.map V.ref)) ∧ xs.length = i ∧ ∀ q, q < i → VLay K (del b (del D H')) (He.ga K "Layer") (ad xs q) n (partL K0 B T' col own q)) ⟨Ex.new hD, [], upd_same, rfl, fun q hq => absurd hq (by omega)⟩ (fun i H' _ p => sq_of (p.1 _ _ hP7)) (fun i z H' hz ⟨e, xs, hD', hl, hxs⟩ => ?_) (fun H8 ⟨e8, xs, hD8, hl8, hx8⟩ => ?_)
  · have him : i < m := by
      have := (List.getElem?_eq_some_iff.mp hz).1
      rw [List.length_map, lps] at this
      exact this
    rw [List.getElem?_map, ad_get (by rw [lps]; exact him)] at hz
    have ez : z = V.ref (ad ps i) := (Option.some.inj hz).symm
    subst ez
    obtain ⟨us', hus', hvus'⟩ := hpq i him
    refine ⟨rfl, _, rfl, _, rfl, rfl, fun x dx hx hdx hne => ?_⟩
    have g := mk_en (C := He.ga K "Layer") hx hdx
    refine ⟨x, dx, _, true, us', _, n, rfl, fresh_of hne, ex_l g (sq_of (e _ _ hus')), ves_ex (ExN.of (e.trans g)) hvus', hn, by omega, part_ok b2 i, Nat.le_trans (part_len b2 i) (by decide), fun H9 e9 vl => ⟨rfl, ?_⟩⟩
    have e79 := ExI.new hx hdx e9
    have hD9 := e79 _ _ hD'
    have hb8 := e _ _ hb7
    have hb9 := e79 _ _ hb8
    have xb : x ≠ b := fun z => by
      rw [z, hb8] at hx
      cases hx
    have dxb : dx ≠ b := fun z => by
      rw [z, hb8] at hdx
      cases hdx
    have xD : x ≠ D := fun z => by
      rw [z, hD'] at hx
      cases hx
    have dxD : dx ≠ D := fun z => by
      rw [z, hD'] at hdx
      cases hdx
    refine ⟨xs.map V.ref, hD9, by rw [List.length_map, hl]; exact szK (by omega), Ex.mut (e.trans e79) hD, xs ++ [x], by rw [upd_same, List.map_append]; rfl, by rw [List.length_append, hl]; rfl, fun q hq => ?_⟩
    rw [del_upd]
    by_cases zq : q < i
    · rw [ad_old (by omega)]
      exact (hxs q zq).mono (del_ex (del_ex e79))
    · have eq : q = xs.length := by omega
      subst eq
      rw [ad_new]
      subst hl
      exact layF_del vl xb dxb xD dxD (fun z => by rw [g _ _ hb8] at z; cases z) (fun z => by rw [g _ _ hD'] at z; cases z) hb9 hD9
  rw [List.length_map, lps] at hl8 hx8
  have hb8 := e8 _ _ hb7
  have hB8 := hB7.ex e8
  have W8 : Lw K (del b H8) n m el P D vs (dif K0 B T') ps xs (partL K0 B T' col own) := ⟨del_at nelb (e8 _ _ hel7), ves_ex ((ExN.of e8).trans (del_exn hb8)) hes7, del_at nPb (e8 _ _ hP7), fun q hq => by
    obtain ⟨us, h1, h2⟩ := hpq q hq
    exact ⟨us, del_at (npsb q hq) (e8 _ _ h1), ves_ex ((ExN.of e8).trans (del_exn hb8)) h2⟩, lps, del_at (Ne.symm nbD) hD8, hl8, fun q hq => (hx8 q hq).mono (del_ex del_sub)⟩
  clear hpq hx8 hD8 hes7 hel7 hP7 hb7 hB7 hD npsb nPb
  refine ⟨_, rfl, _, rfl, _, rfl, a, b, ns, m, rfl, hB8, by omega, by omega, fun t H9 t0 t1 e9 hB9 => ?_⟩
  obtain ⟨t, rfl⟩ : ∃ t' : Nat, t = t' := ⟨t.toNat, by omega⟩
  have W9 := W8.mono (del_exX e9)
  refine ⟨_, rfl, _, rfl, _, _, rfl, rfl, RgOk.of_le (by omega) (by omega) (by omega) (by omega), fun q1 hq1 => ?_⟩
  rw [rgV_nat]
  have g1 := Ex.new (o := .lst (((List.range (m - t)).map fun i => t + i).map nat_)) hq1
  refine ⟨_, rfl, _, rfl, RgOk.of_le (by omega) (by omega) (by omega) (by omega), fun q2 hq2 => ?_⟩
  rw [rgV_zero]
  have g2 := Ex.new (o := .lst ((List.range t).map nat_)) hq2
  refine ⟨q1, q2, _, _, rfl, rfl, g2 _ _ upd_same, upd_same, by rw [List.length_map, List.length_map, List.length_map, List.length_range, List.length_range]; exact Nat.le_of_lt (szK (by omega)), fun o ho => ?_⟩
  rw [← List.map_append]
  have g3 := Ex.new (o := .lst (((List.range (m - t)).map (fun i => t + i) ++ List.range t).map nat_)) ho
  have od0 := ord_rot (t := t) (m := m) (by omega)
  have ho3 : upd (upd (upd H9 q1 (.lst (((List.range (m - t)).map fun i => t + i).map nat_))) q2 (.lst ((List.range t).map nat_))) o (.lst (((List.range (m - t)).map (fun i => t + i) ++ List.range t).map nat_)) o = some (.lst (((List.range (m - t)).map (fun i => t + i) ++ List.range t).map nat_)) := upd_same
  have g123 := (g1.trans g2).trans g3
  have nob := box_nb ((hB9.ex g1).ex g2) ho
  generalize upd (upd (upd H9 q1 (.lst (((List.range (m - t)).map fun i => t + i).map nat_))) q2 (.lst ((List.range t).map nat_))) o (.lst (((List.range (m - t)).map (fun i => t + i) ++ List.range t).map nat_)) = H10 at ho3 g123
  generalize (List.range (m - t)).map (fun i => t + i) ++ List.range t = ord0 at od0 ho3
  have hB10 := hB9.ex g123
  have W10 := W9.mono (del_ex g123)
  refine ⟨fun σ' H' => ∃ o ord k0, σ' = [some (.ref a), some (.ref b), some (.int (n : Int)), some (.ref c), some (.ref el), some (.str s'), some (.int (m : Int)), some (.ref P), some (.ref D), some (.int (t : Int)), some (.ref o), k0, none, none, none, none, none, none, none] ∧ Ord ord m ∧ o ≠ b ∧ H' o = some (.lst (ord.map nat_)) ∧ Lw K (del b H') n m el P D vs (dif K0 B T') ps xs (partL K0 B T' col own) ∧ Box K H' a b ns, ?_, ?_⟩
  · refine ⟨_, rfl, _, rfl, a, b, ns, 2, rfl, hB10, by decide, by decide, fun v H11 v0 v1 e11 hB11 => ?_⟩
    have W11 := W10.mono (del_exX e11)
    have ho11 := e11 _ _ (Ne.symm nob) ho3
    refine ⟨rfl, _, rfl, ?_⟩
    refine ite2 (fun _ => ?_) fun _ => ⟨o, ord0, _, rfl, od0, Ne.symm nob, ho11, W11, hB11⟩
    refine ⟨_, rfl, _, rfl, by omega, by omega, fun o2 ho2 => ?_⟩
    rw [Int.toNat_natCast]
    have nbo2 := box_nb hB11 ho2
    have lo := od0.len
    refine lc_fmR (m := fun i => some (ord0.getD (m - 1 - i) 0)) (R := fun y q _ => y = nat_ q) (szK (by omega)) ho2 (fun _ _ _ _ _ h => h) (fun i H2 Qy Qn hi e ky kn => ?_) fun ys H12 e12 hy _ hr => ?_
    · refine ⟨rfl, _, rfl, _, rfl, _, _, rfl, rfl, _, rfl, _, _, rfl, rfl, _, _, _, _, rfl, rfl, sq_of (e _ _ ho11), atI_int (by omega) (nat_get (q := ord0.getD (m - 1 - i) 0) ?_), ky _ _ H2 (Ex.refl _) rfl rfl⟩
      have ej : ((m : Int) - 1 - (i : Nat)).toNat = m - 1 - i := by omega
      rw [ej]
      exact nat_at (by omega)
    · have h2 := all2_eq (f := nat_) hr
      rw [fm_some, rev_eq lo] at h2
      exact ⟨o2, ord0.reverse, _, rfl, ord_rev od0, Ne.symm nbo2, by rw [hy, h2], W11.mono (del_ex e12), hB11.ex e12⟩
  rintro σ' H11 ⟨o, ord, k0, rfl, od, nob, ho11, W11, hB11⟩
  clear ho3 od0 W10 W9 W8
  have lo := od.len
  obtain ⟨o0, is, rfl⟩ : ∃ o0 is, ord = o0 :: is := by
    cases ord with
    | nil =>
      rw [List.length_nil] at lo
      omega
    | cons x y => exact ⟨x, y, rfl⟩
  rw [List.length_cons] at lo
  have V11 := W11.mono del_sub
  refine ⟨_, rfl, o, rfl, ⟨_, sq_of ho11⟩, fun l1 hl1 => ?_⟩
  refine lc_fmL (m := fun i => ((o0 :: is)[i]?).bind fun q => some (V.ref (ad xs q))) (R := fun y z _ => y = z) (sq_of ho11) (szK (by rw [List.length_map, List.length_cons]; omega)) hl1 (fun _ _ _ _ _ h => h) (fun i z H2 Qy Qn hi e ky kn => ?_) fun ys H12 e12 hy _ hr => ?_
  · rw [List.getElem?_map] at hi
    obtain ⟨q, hq, rfl⟩ := Option.map_eq_some_iff.mp hi
    have hqm := od.lt q (List.mem_of_getElem? hq)
    exact ⟨rfl, _, rfl, _, rfl, _, _, _, _, rfl, rfl, sq_of (e _ _ V11.hls), atI_nat (ref_get (by rw [V11.lxs]; exact hqm)), ky _ _ H2 (Ex.refl _) (by rw [hq]; rfl) rfl⟩
  have h12 := all2_eq (f := fun z => z) hr
  rw [List.length_map, fm_list, fm_some, List.map_id'] at h12
  rw [h12] at hy
  refine ⟨_, rfl, l1, ad xs o0, is.map fun q => V.ref (ad xs q), s', rfl, sq_of hy, by rw [List.length_map]; omega, by rw [List.length_map]; omega, fun p hp => plan_all b2 hcol hgood hn8 od hown (V11.hxs.mono e12) hp fun z H13 e13 hlay => ?_⟩
  refine ⟨_, rfl, _, rfl, z, el, vs, _, n, rfl, hlay, sq_of (e13 _ _ (e12 _ _ V11.hel)), ves_ex (ExN.of (e12.trans e13)) V11.hvs, okE.all, by omega, by omega, fun H14 e14 => ⟨true, rfl, iteF ?_⟩⟩
  have e1114 := (e12.trans e13).trans e14
  have W14 := W11.mono (del_ex e1114)
  have V14 := V11.mono e1114
  have hB14 := hB11.ex e1114
  have ho14 := e1114 _ _ ho11
  clear hr hy h12 hl1 W11 V11 hB11 ho11
  refine ⟨_, rfl, _, _, rfl, rfl, _, rfl, by omega, by omega, fun ag hag => ?_⟩
  have nbag := box_nb hB14 hag
  have em1 : ((m : Int) - 1).toNat = m - 1 := by omega
  rw [em1]
  refine lc_fmR (m := fun i => some ((o0 :: is).getD i 0)) (R := fun y q _ => y = nat_ q) (szK (by omega)) hag (fun _ _ _ _ _ h => h) (fun i H2 Qy Qn hi e ky kn => ?_) fun ys H15 e15 hy _ hr => ?_
  · exact ⟨rfl, _, rfl, _, rfl, _, _, _, _, rfl, rfl, sq_of (e _ _ ho14), atI_nat (nat_get (nat_at (by rw [List.length_cons]; omega))), ky _ _ H2 (Ex.refl _) rfl rfl⟩
  have h15 := all2_eq (f := nat_) hr
  rw [fm_some, take_eq (by rw [List.length_cons]; omega)] at h15
  rw [h15] at hy
  have eag : (o0 :: is).take (m - 1) = o0 :: is.take (m - 2) := by
    have : m - 1 = m - 2 + 1 := by omega
    rw [this, List.take_succ_cons]
  rw [eag] at hy
  have W15 := W14.mono (del_ex e15)
  have hB15 := hB14.ex e15
  have hag15 := hy
  clear hr h15 hy W14 V14 hB14 ho14 hag
  refine ⟨_, rfl, _, rfl, _, rfl, _, rfl, _, _, rfl, rfl, a, b, ns, (m : Int) - 1, rfl, hB15, by omega, by omega, fun v H16 v0 v1 e16 hB16 => ?_⟩
  obtain ⟨v, rfl⟩ : ∃ v' : Nat, v = v' := ⟨v.toNat, by omega⟩
  have hag16 := e16 _ _ (Ne.symm nbag) hag15
  have W16 := W15.mono (del_exX e16)
  have lag : (o0 :: is.take (m - 2)).length = m - 1 := by
    rw [List.length_cons, List.length_take]
    omega
  have hvl : v < (o0 :: is.take (m - 2)).length := by omega
  have htw := nat_at hvl
  generalize (o0 :: is.take (m - 2)).getD v 0 = tw at htw
  have htwm := List.mem_of_getElem? htw
  have hlt : ∀ q ∈ o0 :: is.take (m - 2), q < m := fun q hq => od.lt q (by
    rcases List.mem_cons.mp hq with z | z
    · rw [z]
      exact List.mem_cons_self
    · exact List.mem_cons_of_mem _ (List.mem_of_mem_take z))
  have ndt : (o0 :: is.take (m - 2)).Nodup := by
    rw [← eag]
    exact od.nd.sublist (List.take_sublist _ _)
  refine ⟨_, _, _, _, rfl, rfl, sq_of hag16, atI_nat (nat_get htw), ?_⟩
  have V16 := W16.mono del_sub
  obtain ⟨us, hus, hvus⟩ := V16.hps tw (hlt tw htwm)
  refine ⟨_, rfl, _, rfl, _, _, _, V.ref (ad ps tw), rfl, rfl, sq_of V16.hP, atI_nat (ref_get (by rw [V16.lps]; exact hlt tw htwm)), ad ps tw, rfl, ⟨us, sq_of hus⟩, fun pr hpr => ?_⟩
  have nbpr := box_nb hB16 hpr
  have lus := hvus.len
  have lpt := part_len (col := col) (own := own) b2 tw
  refine lc_fmL (m := fun i => ((partL K0 B T' col own tw)[i]?).bind fun e => some (e.p, e.key)) (R := fun y z H => VP K H y z) (sq_of hus) (szK (by omega)) hpr (fun y z H H' en h => h.ex en) (fun i z H2 Qy Qn hi e ky kn => ?_) fun ys H17 e17 hy _ hr => ?_
  · obtain ⟨en, hen, hve⟩ := hvus.get hi
    have hve' := hve.ex (ExN.of e)
    obtain ⟨c1, x1, y1, rfl, hS1, _, _⟩ := id hve'
    exact ⟨rfl, _, rfl, _, _, _, _, rfl, rfl, hS1, atI0 rfl, _, rfl, _, en, n, rfl, hve', ((part_ok b2 tw).all en (List.mem_of_getElem? hen)).key, hn, sz2, fun t2 ht2 => ky _ (en.p, en.key) _ (Ex.new ht2) (by rw [hen]; rfl) ⟨t2, rfl, st_of upd_same⟩⟩
  rw [lus, fm_list, fm_some] at hr
  have hpr17 := hy
  have vpr17 := hr
  have W17 := W16.mono (del_ex e17)
  have hB17 := hB16.ex e17
  have hag17 := e17 _ _ hag16
  clear hr hy V16 W16 W15 hB15 hB16 hag16 hag15 hus hvus hpr
  refine ⟨fun σ' H' => ∃ tv, σ' = [some (.ref a), some (.ref b), some (.int (n : Int)), some (.ref c), some (.ref el), some (.str s'), some (.int (m : Int)), some (.ref P), some (.ref D), some (.int (t : Int)), some (.ref o), k0, some (.ref ag), some (.int (tw : Int)), some (.ref pr), some tv, none, none, none] ∧
    ((partL K0 B T' col own tw = [] ∧ tv = .non) ∨ (partL K0 B T' col own tw ≠ [] ∧ ∃ t wt, tv = .ref t ∧ SqT K H' t wt ∧ All2 (VP K H') wt ((partL K0 B T' col own tw).map fun e => (e.p, e.key)))) ∧
    Lw K (del b H') n m el P D vs (dif K0 B T') ps xs (partL K0 B T' col own) ∧ Box K H' a b ns ∧ H' pr = some (.lst ys) ∧ All2 (VP K H') ys ((partL K0 B T' col own tw).map fun e => (e.p, e.key)), ?_, ?_⟩
  · have V17 := W17.mono del_sub
    refine ⟨_, rfl, _, rfl, sz1, fun q hq => ?_⟩
    have g1 := Ex.new (o := .lst [V.int (tw : Int)]) hq
    refine ⟨ag, q, _, _, rfl, rfl, g1 _ _ hag17, upd_same, by rw [List.length_map, lag]; exact Nat.le_of_lt (szK (by show m - 1 + 1 ≤ 100000; omega)), fun l2 hl2 => ⟨l2, rfl, ⟨_, sq_of upd_same⟩, fun l3 hl3 => ?_⟩⟩
    have g12 := g1.trans (Ex.new (o := .lst ((o0 :: is.take (m - 2)).map nat_ ++ [V.int (tw : Int)])) hl2)
    have hl2' : upd (upd H17 q (.lst [V.int (tw : Int)])) l2 (.lst ((o0 :: is.take (m - 2)).map nat_ ++ [V.int (tw : Int)])) l2 = some (.lst ((o0 :: is.take (m - 2)).map nat_ ++ [V.int (tw : Int)])) := upd_same
    generalize upd (upd H17 q (.lst [V.int (tw : Int)])) l2 (.lst ((o0 :: is.take (m - 2)).map nat_ ++ [V.int (tw : Int)])) = H18 at g12 hl2' hl3
    have e0 : (o0 :: is.take (m - 2)).map nat_ ++ [V.int (tw : Int)] = (o0 :: (is.take (m - 2) ++ [tw])).map nat_ := by
      rw [← List.cons_append, List.map_append]
      rfl
    rw [e0] at hl2'
    have hlt3 : ∀ q ∈ o0 :: (is.take (m - 2) ++ [tw]), q < m := fun q hq => by
      rw [← List.cons_append] at hq
      rcases List.mem_append.mp hq with z | z
      · exact hlt q z
      · rw [List.mem_singleton.mp z]
        exact hlt tw htwm
    have l18 : (o0 :: (is.take (m - 2) ++ [tw])).length = m := by
      rw [List.length_cons, List.length_append, List.length_singleton]
      rw [List.length_cons] at lag
      omega
    refine lc_fmL (m := fun i => ((o0 :: (is.take (m - 2) ++ [tw]))[i]?).bind fun q => some (V.ref (ad xs q))) (R := fun y z _ => y = z) (sq_of hl2') (szK (by rw [List.length_map, l18]; omega)) hl3 (fun _ _ _ _ _ h => h) (fun i z H2 Qy Qn hi e ky kn => ?_) fun ys2 H19 e19 hy2 _ hr2 => ?_
    · rw [List.getElem?_map] at hi
      obtain ⟨q, hq, rfl⟩ := Option.map_eq_some_iff.mp hi
      have hqm := hlt3 q (List.mem_of_getElem? hq)
      exact ⟨rfl, _, rfl, _, rfl, _, _, _, _, rfl, rfl, sq_of (e _ _ (g12 _ _ V17.hls)), atI_nat (ref_get (by rw [V17.lxs]; exact hqm)), ky _ _ H2 (Ex.refl _) (by rw [hq]; rfl) rfl⟩
    have h19 := all2_eq (f := fun z => z) hr2
    rw [List.length_map, fm_list, fm_some, List.map_id'] at h19
    rw [h19] at hy2
    have e1719 := g12.trans e19
    have lis : ((is.take (m - 2) ++ [tw]).map fun q => V.ref (ad xs q)).length = m - 1 := by
      rw [List.length_map]
      rw [List.length_cons] at l18
      omega
    refine ⟨_, rfl, l3, ad xs o0, (is.take (m - 2) ++ [tw]).map fun q => V.ref (ad xs q), s', rfl, sq_of hy2, by omega, by omega, fun p hp => plan_twice b2 hcol hgood hn8 ndt hlt htwm (V17.hxs.mono e1719) hp (fun h0 z H20 e20 => ?_) fun h0 d t2 wt H20 hd e20 hd2 ht2 hwt => ?_⟩
    · have e := e1719.trans e20
      exact ⟨.non, rfl, .inl ⟨h0, rfl⟩, W17.mono (del_ex e), hB17.ex e, e _ _ hpr17, vpr17.imp fun _ _ z => z.ex (ExN.of e)⟩
    · have e := e1719.trans e20
      exact ⟨rfl, d, t2, rfl, hd2, .ref t2, rfl, .inr ⟨h0, t2, wt, rfl, ht2, hwt⟩, W17.mono (del_ex e), hB17.ex e, e _ _ hpr17, vpr17.imp fun _ _ z => z.ex (ExN.of e)⟩
  rintro σ' H18 ⟨tv, rfl, htv, W18, hB18, hpr18, vpr18⟩
  clear W17 hB17 hag17 hpr17 vpr17
  have lys := vpr18.len
  rw [List.length_map] at lys
  refine ⟨fun σ' H' => σ' = [some (.ref a), some (.ref b), some (.int (n : Int)), some (.ref c), some (.ref el), some (.str s'), some (.int (m : Int)), some (.ref P), some (.ref D), some (.int (t : Int)), some (.ref o), k0, some (.ref ag), some (.int (tw : Int)), some (.ref pr), some tv, none, none, none] ∧
    Lw K (del b H') n m el P D vs (dif K0 B T') ps xs (partL K0 B T' col own) ∧ Box K H' a b ns, ?_, ?_⟩
  · refine ⟨_, rfl, _, _, rfl, .inl (sq_of hpr18), _, _, rfl, rfl, _, rfl, ?_⟩
    rcases htv with ⟨h0, rfl⟩ | ⟨h0, t2, wt, rfl, ht2, hwt⟩
    · have l0 : ys.length = 0 := by rw [lys, h0]; rfl
      refine ifF (decide_eq_false (by omega)) (iteF ⟨_, rfl, _, _, rfl, .inl (sq_of hpr18), rfl, _, rfl, ?_⟩)
      refine ifT (decide_eq_true (by rw [l0]; rfl)) ⟨_, rfl, rfl, _, rfl, ?_⟩
      exact ifF (by rw [decide_eq_true rfl]; rfl) ⟨rfl, W18, hB18⟩
    · have l0 : 0 < ys.length := by
        rw [lys]
        exact List.length_pos_iff.mpr h0
      refine ifT (decide_eq_true (by omega)) ⟨_, rfl, _, rfl, t2, pr, wt, ys, _, rfl, ht2, sq_of hpr18, hwt, vpr18, by rw [List.length_map]; omega, fun H19 e19 => ⟨true, rfl, ?_⟩⟩
      refine iteF ⟨_, rfl, _, _, rfl, .inl (sq_of (e19 _ _ hpr18)), rfl, _, rfl, ?_⟩
      exact ifF (decide_eq_false fun z => by injection z with z; omega) (iteF ⟨rfl, W18.mono (del_ex e19), hB18.ex e19⟩)
  rintro σ' H19 ⟨rfl, W19, hB19⟩
  clear W18 hB18 hpr18 vpr18
  have V19 := W19.mono del_sub
  refine ⟨_, rfl, _, rfl, by omega, by omega, fun D2 hD2 => ?_⟩
  rw [Int.toNat_natCast]
  refine lc_fmR (m := fun i => some true) (R := fun y c _ => y = V.bl c) (szK (by omega)) hD2 (fun _ _ _ _ _ h => h) (fun i H2 Qy Qn hi e ky kn => ?_) fun ys2 H20 e20 hy2 _ hr2 => ?_
  · obtain ⟨us2, hus2, hvus2⟩ := V19.hps i hi
    exact ⟨rfl, _, rfl, _, rfl, _, _, _, V.ref (ad xs i), rfl, rfl, sq_of (e _ _ V19.hls), atI_nat (ref_get (by rw [V19.lxs]; exact hi)), _, rfl, _, rfl, _, rfl, _, _, _, V.ref (ad ps i), rfl, rfl, sq_of (e _ _ V19.hP), atI_nat (ref_get (by rw [V19.lps]; exact hi)), ad xs i, ad ps i, us2, _, n, rfl, (V19.hxs i hi).mono e, sq_of (e _ _ hus2), ves_ex (ExN.of e) hvus2, (part_ok b2 i).all, by omega, Nat.le_trans (part_len b2 i) (by decide), fun H3 e3 => ky _ true H3 e3 rfl rfl⟩
  have h20 := all2_eq (f := fun c : Bool => V.bl c) hr2
  rw [fm_some] at h20
  refine ⟨D2, _, rfl, sq_of (by rw [hy2, h20]), ?_⟩
  have e1 : (((List.range m).map fun _ => true).all id) = true := by simp
  rw [e1]
  refine ⟨true, rfl, iteF ?_⟩
  have W20 := W19.mono (del_ex e20)
  have hB20 := hB19.ex e20
  clear hr2 h20 hy2 V19 W19 hB19 hD2
  refine ⟨Nat.zero_le _, fun kl hkl => ?_⟩
  have nbk := box_nb hB20 hkl
  have nak := box_ap hB20 hkl
  have gk := Ex.new (o := .lst []) hkl
  refine ⟨_, rfl, by decide, by decide, ?_⟩
  refine for_range (lo := 0) (n := 12) (fun i σ H' => ∃ (k1 : Option V) (kk : List Int), σ = [some (.ref a), some (.ref b), some (.int (n : Int)), some (.ref c), some (.ref el), some (.str s'), some (.int (m : Int)), some (.ref P), some (.ref D), some (.int (t : Int)), some (.ref o), k1, some (.ref ag), some (.int (tw : Int)), some (.ref pr), some tv, some (.ref kl), none, none] ∧
    H' kl = some (.lst (vis kk)) ∧ kk.length = i ∧ ExX b H20 H' ∧ Box K H' a b ns) ⟨_, [], rfl, upd_same, rfl, ExX.refl.ex gk, hB20.ex gk⟩ ?_ ?_
  · rintro i σ H21 hi ⟨k1, kk, rfl, hk21, hkl21, e21, hB21⟩
    have V21 := (W20.mono (del_exX e21)).mono del_sub
    have lvs := V21.hvs.len
    have fin : ∀ (v : Int) H22, ExX b H21 H22 → Box K H22 a b ns → ∃ (k1' : Option V) (kk' : List Int), ([some (.ref a), some (.ref b), some (.int (n : Int)), some (.ref c), some (.ref el), some (.str s'), some (.int (m : Int)), some (.ref P), some (.ref D), some (.int (t : Int)), some (.ref o), some (.int (0 + (i : Nat))), some (.ref ag), some (.int (tw : Int)), some (.ref pr), some tv, some (.ref kl), none, none] : L2.St) =
        [some (.ref a), some (.ref b), some (.int (n : Int)), some (.ref c), some (.ref el), some (.str s'), some (.int (m : Int)), some (.ref P), some (.ref D), some (.int (t : Int)), some (.ref o), k1', some (.ref ag), some (.int (tw : Int)), some (.ref pr), some tv, some (.ref kl), none, none] ∧
        upd H22 kl (.lst (vis kk ++ [.int v])) kl = some (.lst (vis kk')) ∧ kk'.length = i + 1 ∧ ExX b H20 (upd H22 kl (.lst (vis kk ++ [.int v]))) ∧ Box K (upd H22 kl (.lst (vis kk ++ [.int v]))) a b ns := fun v H22 e22 hB22 => by
      refine ⟨_, kk ++ [v], rfl, ?_, by rw [List.length_append, hkl21]; rfl, exX_mut (e21.trans e22) hkl, hB22.exx nak nbk ExX.refl.set⟩
      rw [upd_same]
      simp [vis]
    have hsz : (vis kk).length < sizeLine := by
      rw [vis_len, hkl21]
      exact szK (by omega)
    refine ⟨_, rfl, _, _, rfl, .inl (sq_of V21.hel), _, _, rfl, rfl, _, rfl, ?_⟩
    refine ite2 (fun h => ?_) fun h => iteF ?_
    · have hv0 : (0 : Int) < (vs.length : Int) := of_decide_eq_true h
      refine ⟨_, rfl, _, rfl, a, b, ns, 4, rfl, hB21, by decide, by decide, fun u H22 u0 u1 e22 hB22 => ?_⟩
      refine ⟨_, _, rfl, rfl, _, rfl, ?_⟩
      have hk22 := e22 _ _ (Ne.symm nbk) hk21
      have V22 := (W20.mono (del_exX (e21.trans e22))).mono del_sub
      refine ite2 (fun _ => ?_) fun _ => ?_
      · refine ⟨_, rfl, .inl ⟨rfl, _, sq_of hk22⟩, ?_⟩
        refine ⟨_, rfl, _, rfl, _, rfl, _, rfl, _, _, rfl, .inl (sq_of V22.hel), a, b, ns, (vs.length : Int), rfl, hB22, by omega, by omega, fun w2 H23 w0 w1 e23 hB23 => ?_⟩
        have V23 := (W20.mono (del_exX ((e21.trans e22).trans e23))).mono del_sub
        obtain ⟨y2, hy2, _⟩ := list_at (xs := vs) w0 w1
        obtain ⟨en, hen, hve⟩ := V23.hvs.get hy2
        refine ⟨_, _, _, _, rfl, rfl, sq_of V23.hel, atI_int w0 hy2, _, en, n, rfl, hve, (okE.all en (List.mem_of_getElem? hen)).key, hn, kl, vis kk, _, rfl, rfl, e23 _ _ (Ne.symm nbk) hk22, hsz, fin _ H23 (e22.trans e23) hB23⟩
      · refine ⟨_, rfl, .inl ⟨rfl, _, sq_of hk22⟩, _, rfl, _, rfl, a, b, ns, rfl, hB22, fun w2 H23 e23 hB23 => ⟨kl, vis kk, _, rfl, rfl, e23 _ _ (Ne.symm nbk) hk22, hsz, fin _ H23 (e22.trans e23) hB23⟩⟩
    · refine ⟨_, rfl, .inl ⟨rfl, _, sq_of hk21⟩, _, rfl, _, rfl, a, b, ns, rfl, hB21, fun w2 H23 e23 hB23 => ⟨kl, vis kk, _, rfl, rfl, e23 _ _ (Ne.symm nbk) hk21, hsz, fin _ H23 e23 hB23⟩⟩
  · rintro σ H21 ⟨k1, kk, rfl, hk21, hkl21, e21, hB21⟩
    have V21 := (W20.mono (del_exX e21)).mono del_sub
    refine ⟨_, rfl, _, rfl, rfl, fun x dx hx hdx hne => ?_⟩
    have g := mk_en (C := He.ga K "Layer") hx hdx
    refine ⟨x, dx, el, true, vs, _, n, rfl, fresh_of hne, ex_l g (sq_of V21.hel), ves_ex (ExN.of g) V21.hvs, hn, by omega, okE, by omega, fun H22 e22 vl => ⟨rfl, ?_⟩⟩
    have e2122 := ExI.new hx hdx e22
    exact ⟨_, rfl, _, rfl, _, rfl, x, el, kl, n, vs, _, kk, rfl, vl.v, sq_of (e2122 _ _ V21.hel), ves_ex (ExN.of e2122) V21.hvs, sq_of (e2122 _ _ hk21), hkl21, okE, les, hn, hn8, keep_ok b2, fun H' _ => hQ H'⟩

end Kx

end

section
set_option Elab.async false
set_option linter.all false
set_option maxRecDepth 100000
set_option maxHeartbeats 0
namespace Kx
open PySem PySem.Spec PyProof.Rows L2 Evl Pl
theorem law_at {w : World} {K : Fg} {mg : Str → Option Value} {h : Heap} {fa : Addr} (T : Top K mg) (hfa : mg ("law" : Str) = some (.ref fa)) : LamX.LawAtS PySem.Challenge.rw_placelayers_k92_many_layers_and_keys w K (L2.CX PR w) 16 63 "script" mg fa h := by
  obtain ⟨g, fd, F⟩ := T.f_law
  obtain rfl : fa = He.ga K "law" := by
    have e := hfa.symm.trans g
    injection e with e
    injection e
  have b := FunD.bindsA (ps := ["script"]) F fun _ _ _ _ _ _ us hl => match us, hl with | [_], _ => rfl
  refine ⟨fd, [], spLaw K, fun _ h => by simp at h, fun _ h => by simp at h, fun _ h => by simp at h, fun s v => b s [v] rfl, fun H a ns hl _ _ hS => ⟨a, ns, rfl, hS, hl, fun _ => rfl⟩, fun base _ _ _ => ?_⟩
  have D_is_integer := T.f_is_integer.df (ok_is_integer (w := w) (base := base) T)
  have D_count_below := T.f_count_below.df (ok_count_below (w := w) (base := base) T)
  have D_check_width := T.f_check_width.df (ok_check_width (w := w) (base := base) T D_is_integer)
  have D_is_row := T.f_is_row.df (ok_is_row (w := w) (base := base) T D_is_integer)
  have D_changed_columns := T.f_changed_columns.df (ok_changed_columns (w := w) (base := base) T)
  have D_with_columns := T.f_with_columns.df (ok_with_columns (w := w) (base := base) T)
  have D_entry_key := T.f_entry_key.df (ok_entry_key (w := w) (base := base) T)
  have D_entry_growth := T.f_entry_growth.df (ok_entry_growth (w := w) (base := base) T)
  have D_gap_size := T.f_gap_size.df (ok_gap_size (w := w) (base := base) T)
  have D_in_order := T.f_in_order.df (ok_in_order (w := w) (base := base) T D_gap_size D_entry_key)
  have D_is_entry := T.f_is_entry.df (ok_is_entry (w := w) (base := base) T D_is_integer D_is_row)
  have D_check_entries := T.f_check_entries.df (ok_check_entries (w := w) (base := base) T D_is_entry D_in_order)
  have D_turned := T.f_turned.df (ok_turned (w := w) (base := base) T D_entry_growth)
  have D_make_link := T.f_make_link.df (ok_make_link (w := w) (base := base) T)
  have D_links := T.f_links.df (ok_links (w := w) (base := base) T D_entry_key D_entry_growth D_gap_size D_make_link)
  have D_joined := T.f_joined.df (ok_joined (w := w) (base := base) T D_links)
  have D_check_rule := T.f_check_rule.df (ok_check_rule (w := w) (base := base) T)
  have M_Layer2F := mk_Layer2F (w := w) (base := base) T D_check_width D_check_entries D_entry_key
  have M_Layer2 := mk_Layer2 (w := w) (base := base) T D_check_width D_check_entries D_entry_key
  have I_Layer := iter_Layer (w := w) (base := base) T
  have L_Layer := (ok_Layer_len (w := w) (base := base) T).r
  have D_Layer_entry : MtS PR w K mg base 2 (He.ga K "Layer") "entry" (spLayEntry K) := ⟨T.c_Layer, _, T.m_Layer_entry.1, ok_Layer_entry (w := w) (base := base) T D_count_below⟩
  have D_Layer_growth_before : MtS PR w K mg base 2 (He.ga K "Layer") "growth_before" (spGrowB K) := ⟨T.c_Layer, _, T.m_Layer_growth_before.1, ok_Layer_growth_before (w := w) (base := base) T D_count_below D_entry_growth⟩
  have D_Layer_add : MtS PR w K mg base 8 (He.ga K "Layer") "__add__" (spAdd K) := ⟨T.c_Layer, _, T.m_Layer_add.1, ok_Layer_add (w := w) (base := base) T M_Layer2 D_joined⟩
  have D_Layer_only : MtS PR w K mg base 8 (He.ga K "Layer") "only" (spOnly K true) := ⟨T.c_Layer, _, T.m_Layer_only.1, ok_Layer_only (w := w) (base := base) T M_Layer2 D_entry_key⟩
  have D_Layer_without : MtS PR w K mg base 8 (He.ga K "Layer") "without" (spOnly K false) := ⟨T.c_Layer, _, T.m_Layer_without.1, ok_Layer_without (w := w) (base := base) T M_Layer2 D_entry_key⟩
  have D_share_base := T.f_share_base.df (ok_share_base (w := w) (base := base) T D_links D_turned I_Layer L_Layer)
  have D_in_conflict := T.f_in_conflict.df (ok_in_conflict (w := w) (base := base) T D_changed_columns)
  have D_conflicts := T.f_conflicts.df (ok_conflicts (w := w) (base := base) T D_check_rule D_share_base D_entry_key D_in_conflict D_Layer_entry I_Layer)
  have D_moved_entry := T.f_moved_entry.df (ok_moved_entry (w := w) (base := base) T D_entry_key D_changed_columns D_with_columns D_Layer_growth_before D_Layer_entry)
  have D_moved := T.f_moved.df (ok_moved (w := w) (base := base) T D_conflicts M_Layer2 D_moved_entry I_Layer)
  have D_merged := T.f_merged.df (ok_merged (w := w) (base := base) T D_check_rule D_moved D_Layer_add)
  have D__law_take := T.f__law_take.df (ok__law_take (w := w) (base := base) T)
  have D__law_number := T.f__law_number.df (ok__law_number (w := w) (base := base) T D__law_take)
  have D__law_width := T.f__law_width.df (ok__law_width (w := w) (base := base) T D__law_take)
  have D__law_is_int := T.f__law_is_int.df (ok__law_is_int (w := w) (base := base) T)
  have D__law_is_row := T.f__law_is_row.df (ok__law_is_row (w := w) (base := base) T D__law_is_int)
  have D__law_is_entry := T.f__law_is_entry.df (ok__law_is_entry (w := w) (base := base) T D__law_is_int D__law_is_row)
  have D__law_is_entries := T.f__law_is_entries.df (ok__law_is_entries (w := w) (base := base) T D__law_is_entry)
  have D__law_is_layer := T.f__law_is_layer.df (ok__law_is_layer (w := w) (base := base) T D__law_is_int D__law_is_entries I_Layer L_Layer)
  have D__law_key := T.f__law_key.df (ok__law_key (w := w) (base := base) T)
  have D__law_changed := T.f__law_changed.df (ok__law_changed (w := w) (base := base) T)
  have D__law_rank := T.f__law_rank.df (ok__law_rank (w := w) (base := base) T)
  have D__law_find := T.f__law_find.df (ok__law_find (w := w) (base := base) T)
  have D__law_are_pairs := T.f__law_are_pairs.df (ok__law_are_pairs (w := w) (base := base) T D__law_is_row)
  have D__law_entries := T.f__law_entries.df (ok__law_entries (w := w) (base := base) T D__law_find D__law_rank)
  have D__law_rows := T.f__law_rows.df (ok__law_rows (w := w) (base := base) T D__law_take D__law_number)
  have D__law_target := T.f__law_target.df (ok__law_target (w := w) (base := base) T D__law_take D__law_number)
  have D__law_shared_out := T.f__law_shared_out.df (ok__law_shared_out (w := w) (base := base) T D__law_take D__law_changed)
  have D__law_merged := T.f__law_merged.df (ok__law_merged (w := w) (base := base) T D_merged)
  have D__law_conflict := T.f__law_conflict.df (ok__law_conflict (w := w) (base := base) T D__law_merged)
  have D__law_parts := T.f__law_parts.df (ok__law_parts (w := w) (base := base) T D__law_key D__law_is_layer D_Layer_only D_Layer_without)
  exact F.ok sc_law (fun vs H Q E h => by obtain ⟨a, ns, rfl, _⟩ := h; rfl) (walk_law (w := w) (base := base) T D__law_width D__law_number D__law_take D__law_rows D__law_target D__law_entries D__law_shared_out M_Layer2F D__law_is_layer D__law_merged D__law_key D__law_conflict D__law_are_pairs D__law_parts)
end Kx

end

section
set_option Elab.async false
set_option linter.all false
set_option maxRecDepth 100000
set_option pp.maxSteps 400
set_option pp.deepTerms false
set_option maxHeartbeats 0
namespace Kx
open PySem PySem.Spec PyProof.Rows L2 Evl Pl
abbrev R : PySem.W.OpenRow := PySem.W.OpenLaw.row PySem.Challenge.rw_placelayers_k92_many_layers_and_keys
abbrev qv : Program := PySem.W.view R.prog [75]
def nm0 : List PySem.Str := ["_wall", "LayerError", "InvalidWidth", "InvalidEntry", "EntriesOutOfOrder", "InvalidText", "DifferentWidth", "DoesNotFollow", "NoCommonBase", "InvalidRule", "Conflict", "MOST_DIGITS", "DIGITS", "is_integer", "number_text", "read_number", "count_below", "check_width", "is_row", "changed_columns", "with_columns", "row_text", "read_words", "read_width", "is_entry", "entry_key", "entry_kind", "entry_growth", "gap_size", "in_order"]
def nm1 : List PySem.Str := ["check_entries", "entry_text", "read_entry", "turned", "make_link", "links", "joined", "RULES", "check_rule", "share_base", "in_conflict", "conflicts", "Layer", "moved_entry", "moved", "merged", "_law_take", "_law_number", "_law_width", "_law_rows", "_law_target", "_law_rank", "_law_find", "_law_entries", "_law_is_int", "_law_is_row", "_law_is_entry", "_law_is_entries", "_law_is_layer", "_law_key"]
def nm2 : List PySem.Str := ["_law_changed", "_law_shared_out", "_law_merged", "_law_conflict", "_law_are_pairs", "_law_parts"]
def names : List PySem.Str := nm0 ++ nm1 ++ nm2
def seeN0 : List Str := ["is_integer",
  "count_below",
  "check_width",
  "is_row",
  "changed_columns",
  "with_columns",
  "is_entry",
  "entry_key",
  "entry_growth",
  "gap_size",
  "in_order",
  "check_entries",
  "turned",
  "make_link",
  "links",
  "joined",
  "check_rule",
  "share_base",
  "in_conflict",
  "conflicts",
  "moved_entry",
  "moved",
  "merged",
  "_law_take",
  "_law_number",
  "_law_width",
  "_law_rows",
  "_law_target",
  "_law_rank",
  "_law_find"]
def seeN1 : List Str := ["_law_entries",
  "_law_is_int",
  "_law_is_row",
  "_law_is_entry",
  "_law_is_entries",
  "_law_is_layer",
  "_law_key",
  "_law_changed",
  "_law_shared_out",
  "_law_merged",
  "_law_conflict",
  "_law_are_pairs",
  "_law_parts",
  "law",
  "Layer",
  "LayerError",
  "DoesNotFollow",
  "Conflict",
  "RULES"]
def seeN : List Str := seeN0 ++ seeN1
def seeC0 : List Str := ["Layer",
  "LayerError",
  "DoesNotFollow",
  "Conflict"]
def seeC : List Str := seeC0
def seeM0 : List (Str × Str) := [("Layer", "_entries"),
  ("Layer", "_key_list"),
  ("Layer", "width"),
  ("Layer", "__init__"),
  ("Layer", "__iter__"),
  ("Layer", "__len__"),
  ("Layer", "entry"),
  ("Layer", "growth_before"),
  ("Layer", "only"),
  ("Layer", "without"),
  ("Layer", "__add__"),
  ("Conflict", "__init__")]
def seeM : List (Str × Str) := seeM0
def seeD0 : List At := [.g "is_integer",
  .g "count_below",
  .g "check_width",
  .g "is_row",
  .g "changed_columns",
  .g "with_columns",
  .g "is_entry",
  .g "entry_key",
  .g "entry_growth",
  .g "gap_size",
  .g "in_order",
  .g "check_entries",
  .g "turned",
  .g "make_link",
  .g "links",
  .g "joined",
  .g "check_rule",
  .g "share_base",
  .g "in_conflict",
  .g "conflicts",
  .g "moved_entry",
  .g "moved",
  .g "merged",
  .g "_law_take",
  .g "_law_number",
  .g "_law_width",
  .g "_law_rows",
  .g "_law_target",
  .g "_law_rank",
  .g "_law_find"]
def seeD1 : List At := [.g "_law_entries",
  .g "_law_is_int",
  .g "_law_is_row",
  .g "_law_is_entry",
  .g "_law_is_entries",
  .g "_law_is_layer",
  .g "_law_key",
  .g "_law_changed",
  .g "_law_shared_out",
  .g "_law_merged",
  .g "_law_conflict",
  .g "_law_are_pairs",
  .g "_law_parts",
  .g "law",
  .m "Layer" "__init__",
  .m "Layer" "__iter__",
  .m "Layer" "__len__",
  .m "Layer" "entry",
  .m "Layer" "growth_before",
  .m "Layer" "only",
  .m "Layer" "without",
  .m "Layer" "__add__",
  .m "Conflict" "__init__"]
def seeD : List At := seeD0 ++ seeD1
def see : See := ⟨seeN, seeC, seeM, seeD⟩
def cks0 : List (Fg → Bool) := [ckGlo "is_integer",
  ckGlo "count_below",
  ckGlo "check_width",
  ckGlo "is_row",
  ckGlo "changed_columns",
  ckGlo "with_columns",
  ckGlo "is_entry",
  ckGlo "entry_key",
  ckGlo "entry_growth",
  ckGlo "gap_size",
  ckGlo "in_order",
  ckGlo "check_entries",
  ckGlo "turned",
  ckGlo "make_link",
  ckGlo "links",
  ckGlo "joined",
  ckGlo "check_rule",
  ckGlo "share_base",
  ckGlo "in_conflict",
  ckGlo "conflicts",
  ckGlo "moved_entry",
  ckGlo "moved",
  ckGlo "merged",
  ckGlo "_law_take",
  ckGlo "_law_number",
  ckGlo "_law_width",
  ckGlo "_law_rows",
  ckGlo "_law_target",
  ckGlo "_law_rank",
  ckGlo "_law_find",
  ckGlo "_law_entries",
  ckGlo "_law_is_int",
  ckGlo "_law_is_row",
  ckGlo "_law_is_entry",
  ckGlo "_law_is_entries",
  ckGlo "_law_is_layer",
  ckGlo "_law_key",
  ckGlo "_law_changed",
  ckGlo "_law_shared_out",
  ckGlo "_law_merged"]
def cks1 : List (Fg → Bool) := [ckGlo "_law_conflict",
  ckGlo "_law_are_pairs",
  ckGlo "_law_parts",
  ckGlo "law",
  ckGlo "Layer",
  fun K => isiB K (He.ga K "Layer"),
  ckSl "Layer",
  ckSlot "Layer" "_entries" 0,
  ckSlot "Layer" "_key_list" 1,
  ckSlot "Layer" "width" 2,
  ckMk "Layer",
  ckTupA (dfAd "Layer") [],
  ckMeth "Layer" "__iter__",
  ckMeth "Layer" "__len__",
  ckMeth "Layer" "entry",
  ckMeth "Layer" "growth_before",
  ckMeth "Layer" "only",
  ckMeth "Layer" "without",
  ckMeth "Layer" "__add__",
  ckGlo "DoesNotFollow",
  ckExc0 "DoesNotFollow" [],
  ckGlo "Conflict",
  ckFree "super",
  ckX PR.main.file "Conflict",
  ckNo "Conflict" "conflicts",
  ckExm "DoesNotFollow" "DoesNotFollow" true,
  ckExm "Conflict" "Conflict" true,
  fun K => xfB K (He.ga K "Conflict"),
  ckGlo "RULES",
  ckTupA (fun K => He.ga K "RULES") [.str "row", .str "column"],
  ckFree "isinstance",
  ckFree "int",
  ckFree "bool",
  ckFree "tuple",
  ckFree "len",
  ckFree "all",
  ckFree "any",
  ckFree "enumerate",
  ckFree "range",
  ckFree "sorted"]
def cks2 : List (Fg → Bool) := [ckFree "iter",
  ckFree "list",
  ckFree "abs",
  ckFree "set",
  ckFree "min",
  ckFree "sum"]
def cks : List (Fg → Bool) := cks0 ++ cks1 ++ cks2
def dfs0 : List DefP := [⟨.g "is_integer", "is_integer", "is_integer", s_is_integer, [], []⟩,
  ⟨.g "count_below", "count_below", "count_below", s_count_below, [], []⟩,
  ⟨.g "check_width", "check_width", "check_width", s_check_width, [], []⟩,
  ⟨.g "is_row", "is_row", "is_row", s_is_row, [], []⟩,
  ⟨.g "changed_columns", "changed_columns", "changed_columns", s_changed_columns, [], []⟩,
  ⟨.g "with_columns", "with_columns", "with_columns", s_with_columns, [], []⟩,
  ⟨.g "is_entry", "is_entry", "is_entry", s_is_entry, [], []⟩,
  ⟨.g "entry_key", "entry_key", "entry_key", s_entry_key, [], []⟩,
  ⟨.g "entry_growth", "entry_growth", "entry_growth", s_entry_growth, [], []⟩,
  ⟨.g "gap_size", "gap_size", "gap_size", s_gap_size, [], []⟩,
  ⟨.g "in_order", "in_order", "in_order", s_in_order, [], []⟩,
  ⟨.g "check_entries", "check_entries", "check_entries", s_check_entries, [], []⟩,
  ⟨.g "turned", "turned", "turned", s_turned, [], []⟩,
  ⟨.g "make_link", "make_link", "make_link", s_make_link, [], []⟩,
  ⟨.g "links", "links", "links", s_links, [], []⟩,
  ⟨.g "joined", "joined", "joined", s_joined, [], []⟩,
  ⟨.g "check_rule", "check_rule", "check_rule", s_check_rule, [], []⟩,
  ⟨.g "share_base", "share_base", "share_base", s_share_base, [], []⟩,
  ⟨.g "in_conflict", "in_conflict", "in_conflict", s_in_conflict, [], []⟩,
  ⟨.g "conflicts", "conflicts", "conflicts", s_conflicts, [], []⟩,
  ⟨.g "moved_entry", "moved_entry", "moved_entry", s_moved_entry, [], []⟩,
  ⟨.g "moved", "moved", "moved", s_moved, [], []⟩,
  ⟨.g "merged", "merged", "merged", s_merged, [], []⟩,
  ⟨.g "_law_take", "_law_take", "_law_take", s__law_take, [], []⟩,
  ⟨.g "_law_number", "_law_number", "_law_number", s__law_number, [], []⟩,
  ⟨.g "_law_width", "_law_width", "_law_width", s__law_width, [], []⟩,
  ⟨.g "_law_rows", "_law_rows", "_law_rows", s__law_rows, [], []⟩,
  ⟨.g "_law_target", "_law_target", "_law_target", s__law_target, [], []⟩,
  ⟨.g "_law_rank", "_law_rank", "_law_rank", s__law_rank, [], []⟩,
  ⟨.g "_law_find", "_law_find", "_law_find", s__law_find, [], []⟩,
  ⟨.g "_law_entries", "_law_entries", "_law_entries", s__law_entries, [], []⟩,
  ⟨.g "_law_is_int", "_law_is_int", "_law_is_int", s__law_is_int, [], []⟩,
  ⟨.g "_law_is_row", "_law_is_row", "_law_is_row", s__law_is_row, [], []⟩,
  ⟨.g "_law_is_entry", "_law_is_entry", "_law_is_entry", s__law_is_entry, [], []⟩,
  ⟨.g "_law_is_entries", "_law_is_entries", "_law_is_entries", s__law_is_entries, [], []⟩,
  ⟨.g "_law_is_layer", "_law_is_layer", "_law_is_layer", s__law_is_layer, [], []⟩,
  ⟨.g "_law_key", "_law_key", "_law_key", s__law_key, [], []⟩,
  ⟨.g "_law_changed", "_law_changed", "_law_changed", s__law_changed, [], []⟩,
  ⟨.g "_law_shared_out", "_law_shared_out", "_law_shared_out", s__law_shared_out, [], []⟩,
  ⟨.g "_law_merged", "_law_merged", "_law_merged", s__law_merged, [], []⟩]
def dfs1 : List DefP := [⟨.g "_law_conflict", "_law_conflict", "_law_conflict", s__law_conflict, [], []⟩,
  ⟨.g "_law_are_pairs", "_law_are_pairs", "_law_are_pairs", s__law_are_pairs, [], []⟩,
  ⟨.g "_law_parts", "_law_parts", "_law_parts", s__law_parts, [], []⟩,
  ⟨.g "law", "law", "law", s_law, [], []⟩,
  ⟨.m "Layer" "__init__", "__init__", "Layer.__init__", s_Layer_init, [.adr (dfAd "Layer")], []⟩,
  ⟨.m "Layer" "__iter__", "__iter__", "Layer.__iter__", s_Layer_iter, [], []⟩,
  ⟨.m "Layer" "__len__", "__len__", "Layer.__len__", s_Layer_len, [], []⟩,
  ⟨.m "Layer" "entry", "entry", "Layer.entry", s_Layer_entry, [], []⟩,
  ⟨.m "Layer" "growth_before", "growth_before", "Layer.growth_before", s_Layer_growth_before, [], []⟩,
  ⟨.m "Layer" "only", "only", "Layer.only", s_Layer_only, [], []⟩,
  ⟨.m "Layer" "without", "without", "Layer.without", s_Layer_without, [], []⟩,
  ⟨.m "Layer" "__add__", "__add__", "Layer.__add__", s_Layer_add, [], []⟩,
  ⟨.m "Conflict" "__init__", "__init__", "Conflict.__init__", s_Conflict_init, [], ["__class__"]⟩]
def dfs : List DefP := dfs0 ++ dfs1
abbrev hk : PySem.W.Hook := hookP see cks dfs
def ob (s : PySem.W.SharedT) : Bool × List FnZ := obsP cks dfs (see.fg (HandSHeadRun.getT s))
theorem ob_eq (s : PySem.W.SharedT) : ob s = hk.obs s.abs := obsP_eq (HandSHeadRun.getT_eq s)
theorem run (w : World) : HandSHeadRun.RunEq R qv hk ob 20000 names w := by
  intro os
  kernel_rfl
theorem top_of {K : Fg} {h : Heap} {mg : Str → Option Value} (X : K.In h) (G : h.Ns mainGlobals mg) (c : SaysP cks dfs K) : Top K mg where
  f_is_integer := ⟨ckGlo_ok X G (c.fact 0), c.def_ 0⟩
  f_count_below := ⟨ckGlo_ok X G (c.fact 1), c.def_ 1⟩
  f_check_width := ⟨ckGlo_ok X G (c.fact 2), c.def_ 2⟩
  f_is_row := ⟨ckGlo_ok X G (c.fact 3), c.def_ 3⟩
  f_changed_columns := ⟨ckGlo_ok X G (c.fact 4), c.def_ 4⟩
  f_with_columns := ⟨ckGlo_ok X G (c.fact 5), c.def_ 5⟩
  f_is_entry := ⟨ckGlo_ok X G (c.fact 6), c.def_ 6⟩
  f_entry_key := ⟨ckGlo_ok X G (c.fact 7), c.def_ 7⟩
  f_entry_growth := ⟨ckGlo_ok X G (c.fact 8), c.def_ 8⟩
  f_gap_size := ⟨ckGlo_ok X G (c.fact 9), c.def_ 9⟩
  f_in_order := ⟨ckGlo_ok X G (c.fact 10), c.def_ 10⟩
  f_check_entries := ⟨ckGlo_ok X G (c.fact 11), c.def_ 11⟩
  f_turned := ⟨ckGlo_ok X G (c.fact 12), c.def_ 12⟩
  f_make_link := ⟨ckGlo_ok X G (c.fact 13), c.def_ 13⟩
  f_links := ⟨ckGlo_ok X G (c.fact 14), c.def_ 14⟩
  f_joined := ⟨ckGlo_ok X G (c.fact 15), c.def_ 15⟩
  f_check_rule := ⟨ckGlo_ok X G (c.fact 16), c.def_ 16⟩
  f_share_base := ⟨ckGlo_ok X G (c.fact 17), c.def_ 17⟩
  f_in_conflict := ⟨ckGlo_ok X G (c.fact 18), c.def_ 18⟩
  f_conflicts := ⟨ckGlo_ok X G (c.fact 19), c.def_ 19⟩
  f_moved_entry := ⟨ckGlo_ok X G (c.fact 20), c.def_ 20⟩
  f_moved := ⟨ckGlo_ok X G (c.fact 21), c.def_ 21⟩
  f_merged := ⟨ckGlo_ok X G (c.fact 22), c.def_ 22⟩
  f__law_take := ⟨ckGlo_ok X G (c.fact 23), c.def_ 23⟩
  f__law_number := ⟨ckGlo_ok X G (c.fact 24), c.def_ 24⟩
  f__law_width := ⟨ckGlo_ok X G (c.fact 25), c.def_ 25⟩
  f__law_rows := ⟨ckGlo_ok X G (c.fact 26), c.def_ 26⟩
  f__law_target := ⟨ckGlo_ok X G (c.fact 27), c.def_ 27⟩
  f__law_rank := ⟨ckGlo_ok X G (c.fact 28), c.def_ 28⟩
  f__law_find := ⟨ckGlo_ok X G (c.fact 29), c.def_ 29⟩
  f__law_entries := ⟨ckGlo_ok X G (c.fact 30), c.def_ 30⟩
  f__law_is_int := ⟨ckGlo_ok X G (c.fact 31), c.def_ 31⟩
  f__law_is_row := ⟨ckGlo_ok X G (c.fact 32), c.def_ 32⟩
  f__law_is_entry := ⟨ckGlo_ok X G (c.fact 33), c.def_ 33⟩
  f__law_is_entries := ⟨ckGlo_ok X G (c.fact 34), c.def_ 34⟩
  f__law_is_layer := ⟨ckGlo_ok X G (c.fact 35), c.def_ 35⟩
  f__law_key := ⟨ckGlo_ok X G (c.fact 36), c.def_ 36⟩
  f__law_changed := ⟨ckGlo_ok X G (c.fact 37), c.def_ 37⟩
  f__law_shared_out := ⟨ckGlo_ok X G (c.fact 38), c.def_ 38⟩
  f__law_merged := ⟨ckGlo_ok X G (c.fact 39), c.def_ 39⟩
  f__law_conflict := ⟨ckGlo_ok X G (c.fact 40), c.def_ 40⟩
  f__law_are_pairs := ⟨ckGlo_ok X G (c.fact 41), c.def_ 41⟩
  f__law_parts := ⟨ckGlo_ok X G (c.fact 42), c.def_ 42⟩
  f_law := ⟨ckGlo_ok X G (c.fact 43), c.def_ 43⟩
  g_Layer := ckGlo_ok X G (c.fact 44)
  o_Layer := isiB_ok (c.fact 45)
  c_Layer := ckSl_ok (c.fact 46)
  s_Layer__entries := ckSlot_ok (c.fact 47)
  s_Layer__key_list := ckSlot_ok (c.fact 48)
  s_Layer_width := ckSlot_ok (c.fact 49)
  i_Layer := ⟨ckMk_ok (c.fact 50), c.def_ 44⟩
  e_Layer := fun H => ckTupA_ok (vs := []) (c.fact 51) H
  m_Layer_iter := ⟨ckMeth_ok (c.fact 52), c.def_ 45⟩
  m_Layer_len := ⟨ckMeth_ok (c.fact 53), c.def_ 46⟩
  m_Layer_entry := ⟨ckMeth_ok (c.fact 54), c.def_ 47⟩
  m_Layer_growth_before := ⟨ckMeth_ok (c.fact 55), c.def_ 48⟩
  m_Layer_only := ⟨ckMeth_ok (c.fact 56), c.def_ 49⟩
  m_Layer_without := ⟨ckMeth_ok (c.fact 57), c.def_ 50⟩
  m_Layer_add := ⟨ckMeth_ok (c.fact 58), c.def_ 51⟩
  g_DoesNotFollow := ckGlo_ok X G (c.fact 59)
  x_DoesNotFollow := ckExc0_ok (B := []) (c.fact 60)
  g_Conflict := ckGlo_ok X G (c.fact 61)
  x_Conflict := exc1_of (c.fact 63) (c.fact 64) (ckGlo_ok X G (c.fact 61)) (ckFree_ok X G (c.fact 62)) (c.valD 52) (by rfl) rfl rfl rfl rfl rfl rfl (fun _ _ => ⟨⟨_, rfl⟩, rfl⟩) (by decide) (by decide) (by decide) (by decide) (fun _ _ _ _ _ _ _ _ _ => rfl)
  ex_DoesNotFollow_DoesNotFollow := ckExm_ok (c.fact 65)
  ex_Conflict_Conflict := ckExm_ok (c.fact 66)
  xf_Conflict := xfB_ok (c.fact 67)
  nf_Conflict_conflicts := ckNo_ok (c.fact 64)
  g_RULES := ckGlo_ok X G (c.fact 68)
  t_RULES := fun H => ckTupA_ok (vs := [.str "row", .str "column"]) (c.fact 69) H
  b_isinstance := ckFree_ok X G (c.fact 70)
  b_int := ckFree_ok X G (c.fact 71)
  b_bool := ckFree_ok X G (c.fact 72)
  b_tuple := ckFree_ok X G (c.fact 73)
  b_len := ckFree_ok X G (c.fact 74)
  b_all := ckFree_ok X G (c.fact 75)
  b_any := ckFree_ok X G (c.fact 76)
  b_enumerate := ckFree_ok X G (c.fact 77)
  b_range := ckFree_ok X G (c.fact 78)
  b_sorted := ckFree_ok X G (c.fact 79)
  b_iter := ckFree_ok X G (c.fact 80)
  b_list := ckFree_ok X G (c.fact 81)
  b_abs := ckFree_ok X G (c.fact 82)
  b_set := ckFree_ok X G (c.fact 83)
  b_min := ckFree_ok X G (c.fact 84)
  b_sum := ckFree_ok X G (c.fact 85)
end Kx


end

section
set_option Elab.async false
set_option linter.all false
set_option maxRecDepth 100000
set_option maxHeartbeats 0
open PySem PySem.W PySem.Calls PyProof.Rows
theorem PySem.Challenge.cw_placelayers_k92_many_layers_and_keys_holds : PySem.Challenge.rw_placelayers_k92_many_layers_and_keys.Holds := by
  w_on; o_law
  refine HandSHeadRun.head_any (r := OpenLaw.row PySem.Challenge.rw_placelayers_k92_many_layers_and_keys) (q := Kx.qv) (H := Kx.hk) (ob := Kx.ob) (M := 20000) (loose := Kx.names) (d := HandSHeadRun.topDef (OpenLaw.row PySem.Challenge.rw_placelayers_k92_many_layers_and_keys).prog 75) (kwd := []) Kx.ob_eq
    (by kernel_rfl) (fun s => by kernel_rfl) Kx.run (by kernel_rfl) (by kernel_rfl) (by kernel_rfl) (by rfl) (by first | assumption | decide +kernel) (by decide +kernel) ⟨rfl, rfl, rfl, rfl, rfl, by decide +kernel⟩ ?hw ?hc
  case hw => w_witness2
  case hc =>
    refine LamX.walk_ofTsE (l := PySem.Challenge.rw_placelayers_k92_many_layers_and_keys) (n := 63) (k := 16) (x := "script") (CX := fun w => L2.CX Kx.PR w) rfl (by decide) (by kernel_rfl) ⟨rfl, by decide, by decide⟩ ?F (fun _ _ _ _ _ z => Pl.cx0 z)
    intro w mg fa h Y G hmg0
    obtain ⟨K, KX, c⟩ := Y
    have hmg : mg ("law" : PySem.Str) = some (.ref fa) := by
      have e : (HandSHeadRun.topDef (OpenLaw.row PySem.Challenge.rw_placelayers_k92_many_layers_and_keys).prog 75).name = ("law" : PySem.Str) := by kernel_rfl
      rw [← e]
      exact hmg0
    exact ⟨K, KX, Kx.law_at (Kx.top_of KX G c) hmg⟩

end

