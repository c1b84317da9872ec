import PyProof.Rows.All
import Wide.All
import OpenK.AllK
import Wide.FinOn
import KE.KOwnIter
import HandS.Base
import HandS.Call
import HandS.List
import HandS.More
import HandS.Iter
import HandS.IterNext
import HandS.IterVal
import HandS.Slots
import HandS.Exc
import HandS.OwnEq
import HandS.OwnIter
import HandS.Words
import HandS.WordsExc
import HandS.Defaults
import KE.KExcSuper
import KE.KSuper
import HandS.ExcInit
import HandS.ExcOwn
import HandS.Comp
import HandS.Strs
import HandS.SetBool
import HandS.DictComp
import HandS.Evl
import HandS.Star
import HandS.ClsMeth
import HandS.Property
import HandS.MakeKwOnly
import HandS.ExcField
import HandS.SlotsOwn
import KE.GoesEnum
import HandS.Head0
import HandS.Head1
import HandS.Head2
import HandS.HeadEnd
import HandS.EndBits
import HandS.HeadHook1
import HandS.HeadHook2
import HandS.Wide
import HandS.IsInst
import HandS.Flow
import HandS.StrMore
import HandS.TryMany
import HandS.RaiseOp
import HandS.Deep
import HandS.WordsDict
import PySem.Challenge.RW_placelayers_k88_rules_at_every_door
import Lean
import HandS.HeadWalk
section
set_option Elab.async false
set_option linter.all false
set_option maxRecDepth 100000
set_option maxHeartbeats 2000000
/-! PlA: a for over an own instance with slots whose __iter__ hands back a list's iterator. -/
namespace Pl
open PySem PySem.Spec PyProof.Rows L2

/-- a promise that may speak of the state at the call -/
abbrev SpS := Shared → Sp
def FnS (P : Program) (w : World) (K : PySem.W.Frag) (mg : Str → Option Value) (base : Heap) (CX : CXT) (k : Nat) (f : Addr) (sp : SpS) : Prop :=
  ∀ (A : Around) (outer : List Env) (s : Shared) (H : Hp) (us : List Value) (vs : List V) (Q : VK) (E : XK), Room k A → Env0 P w K mg base A outer s H → Vals vs us → sp s vs H Q E →
    codeAny (model P w) A (.call (.ref f) ⟨us, []⟩) (CR CX outer P w H s Q E) s
theorem fnS_of {CX : CXT} {P : Program} {w : World} {K : PySem.W.Frag} {mg : Str → Option Value} {base : Heap} {k : Nat} {f : Addr} {x qual : Str} {params : Arguments} {body : List Stmt} {scope : Scope} {dvs : List V} {kws : List (Str × V)} {fd : FuncData}
    {N ps : List Str} {sp : SpS} (F : FunD K x qual params body scope dvs kws f fd) (S : FnScope N ps scope) (len : ∀ s vs H Q E, sp s vs H Q E → vs.length = ps.length) (bd : Binds K fd ps [])
    (hbody : ∀ (cdv : Value) (A : Around) (outer : List Env) (s : Shared) (H : Hp) (vs : List V) (Q : VK) (E : XK), Room k (A.deeper (envOfC qual scope s.heap.objs.size f cdv)) → sp s vs H Q E →
      ∃ t, PSs (cxOf CX P w K mg base N qual scope f cdv A outer s H E) body t ∧ t { nx := fun _ H' => Q .non H', rt := Q } (start N vs) H) :
    FnS P w K mg base CX (k + 1) f sp := by
  intro A outer s H us vs Q E hr e0 r hsp
  obtain ⟨oc, od, dV, kV, doc, pm, an, cdv, ct, osl, rfl, lk, hcd, _, _⟩ := F.ex
  have hl : us.length = ps.length := r.length.symm.trans (len _ _ _ _ _ hsp)
  have kin : K.In s.heap := e0.mod.kin.keeps fun b o e => (e0.bs b o e).1
  have b0 := bd s us kin (by rw [List.append_nil]; exact hl)
  rw [List.append_nil] at b0
  refine codeAny_call_function hr.depth (kin _ _ lk) rfl S.co S.gen rfl (PySem.W.codeRec_of kin hcd) (b0 _ _ _ _ ?_)
  refine wpAny_newFunctionEnv_cells S.kind (fun y hy => ?_) fun env he s1 z => ?_
  · rcases S.par y.1 (List.of_mem_zip (show (y.1, y.2) ∈ ps.zip us from hy)).1 with q | q
    · exact .inl q
    · exact .inr ⟨q, PySem.W.cellsFrom_some _ _ _ (.inl q)⟩
  subst he
  refine ⟨(e0.mod.nolimit.keeps fun b o e => (e0.bs b o e).1).keeps z.toInCall.keep, codeAny_func ?_⟩
  obtain ⟨t, ht, hq⟩ := hbody cdv A outer s H vs Q E (hr.deeper _) hsp
  refine wpAny_mono (ht.run [] s1 (start N vs) H _ (inv_start S hr.hd e0 (len _ _ _ _ _ hsp) r z) hq) (fun fl s' hs => ?_) fun _ _ hs => hs
  cases fl with
  | ret u =>
    obtain ⟨v, σ', H', J, rv, q⟩ := hs
    exact ⟨v, H', J.os, J.bare, J.base, J.hok, rv, q⟩
  | next =>
    obtain ⟨σ', H', J, q⟩ := hs
    exact ⟨V.non, H', J.os, J.bare, J.base, J.hok, rfl, q⟩
  | brk => exact hs.elim fun _ h => h.elim fun _ h => h.2.elim
  | cont => exact hs.elim fun _ h => h.elim fun _ h => h.2.elim
theorem run_fnS' {X : Cx} {CX : CXT} {k : Nat} {f : Addr} {sp : SpS} {E : XK} {pins : List (Addr × Obj)} {σ : L2.St} {H : Hp} {s : Shared} {Q : VK} {us : List Value} {vs : List V} (F : FnS X.prog X.w X.K X.mg X.base CX k f sp) (hr : Room k X.A) (hx : Passes CX X E)
    (I : Inv X pins σ H s) (r : Vals vs us) (h : sp s vs H Q E) : wpAny (model X.prog X.w) X.A (call (.ref f) us) (EP X pins σ Q) X.xe s := by
  refine wpAny_call (codeAny_mono (F X.A X.stack s H us vs Q E hr I.env0 r h) fun rr s' hq => ?_)
  rcases rr with e | fl
  · exact hx pins σ H s e s' I hq
  · cases fl with
    | ret u => exact I.after hq
    | _ => exact False.elim hq

/-- what the class at C has: its __iter__ is the def at fi -/
structure IterC (K : PySem.W.Frag) (C fi : Addr) : Prop where
  at_ : PySem.W.findIn K (.ref C) "__iter__" = some (some (.ref fi))
  fn : PySem.W.isFn K (.ref fi) = true
/-- __iter__ of a slotted class whose slot i holds a list: a new iterator at its start -/
def spIter (K : PySem.W.Frag) (C : Addr) (i : Nat) : SpS := fun s vs H Q _ => ∃ a dx sv l zs, vs = [.ref a] ∧ SlX.Slt H a C dx sv ∧ sv[i]? = some (some (.ref l)) ∧ SqL K H l zs ∧
  ∀ it, H it = none → s.heap.objs.size ≤ it → Q (.ref it) (upd H it (ItO l it 0))
/-- a for over such an instance: over the list that its slot i holds -/
def iOwn (K : PySem.W.Frag) (C : Addr) (i : Nat) (te : TE) : TI := fun σ H R => te σ H fun x H1 => ∃ a dx sv l zs, x = .ref a ∧ SlX.Slt H1 a C dx sv ∧ sv[i]? = some (some (.ref l)) ∧ SqL K H1 l zs ∧ R (Itl K l) H1
section
variable {X : Cx} {tg e : Expr} {te : TE} {CX : CXT} {k i : Nat} {C fi : Addr}
theorem pi_own (he : PE X e te) (hc : IterC X.K C fi) (F : FnS X.prog X.w X.K X.mg X.base CX k fi (spIter X.K C i)) (hr : Room k X.A) (hx : Passes CX X E0) : PI X tg e (iOwn X.K C i te) := by
  refine ⟨fun pins s σ H R I h => ?_⟩
  refine thn (he.run pins s σ H _ I h) fun u s1 hh => ?_
  obtain ⟨x, H1, I1, rx, a, dx, sv, l, zs, ex, hsl, hi, hz, q⟩ := hh
  subst ex
  cases rx
  obtain ⟨sl, od, rs, J, hl⟩ := SlX.slt_inst I1 hsl
  obtain ⟨m, fr⟩ := I1.fr
  refine PySem.W.owit_iter fr I1.ok.mod.kin J hc.at_ hc.fn ?_
  have hsp : spIter X.K C i s1 [.ref a] H1 (fun v H2 => ∃ it, v = .ref it ∧ H1 it = none ∧ s1.heap.objs.size ≤ it ∧ H2 = upd H1 it (ItO l it 0)) E0 := ⟨a, dx, sv, l, zs, rfl, hsl, hi, hz, fun it hn hs => ⟨it, rfl, hn, hs, rfl⟩⟩
  refine wpAny_mono (run_fnS' (us := [.ref a]) (vs := [.ref a]) F hr hx I1 (.cons rfl .nil) hsp) (fun v s2 hv => ?_) (fun _ _ z => z)
  obtain ⟨y, H2, I2, ry, it, ey, hn, hs, eH⟩ := hv
  subst ey
  cases ry
  have hi2 : H2 it = some (ItO l it 0) := by rw [eH, upd_same]
  have eo := itO_get I2 hi2
  have hT : s2.TypeIs (.ref it) "list_iterator" := ⟨_, eo, rfl⟩
  show PySem.W.OwitIt _ _ _ _ _ _
  unfold PySem.W.OwitIt
  refine wpAny_specialOf (name := Str.ofString "__next__") hT slot_listiter_next.lookup ?_
  have hi' := hi2
  unfold ItO at hi'
  have I3 := ItX.inv_drop I2 hi'
  have e3 : ItX.dropH H2 it = H1 := by rw [eH]; exact ItX.dropH_upd hn
  refine ⟨it, [it], _, _, H1, rfl, (by rw [← e3]; exact I3), turn_list l it, ⟨_, eo, rfl, rfl⟩, fun b hb => ?_, q⟩
  have eb : b = it := by simpa using hb
  rw [eb, ← e3]
  exact ItX.inv_fp I2 hi2 (Nat.le_trans I1.sz hs)
end
end Pl

end

section
set_option Elab.async false
set_option linter.all false
set_option maxRecDepth 100000
set_option maxHeartbeats 2000000
/-! PlB: list(o), o an own instance with slots, with __iter__ and __len__. -/
namespace Pl
open PySem PySem.Spec PyProof.Rows L2

structure LenC (K : PySem.W.Frag) (C fl : Addr) : Prop where
  at_ : PySem.W.findIn K (.ref C) "__len__" = some (some (.ref fl))
  fn : PySem.W.isFn K (.ref fl) = true
/-- __len__: the length of the list in slot i -/
def spLen (K : PySem.W.Frag) (C : Addr) (i : Nat) : Sp := fun vs H Q _ => ∃ a dx sv l zs, vs = [.ref a] ∧ SlX.Slt H a C dx sv ∧ sv[i]? = some (some (.ref l)) ∧ SqL K H l zs ∧ Q (.int zs.length) H
/-- list(o): a new list of what slot i's list holds -/
def rListSl (K : PySem.W.Frag) (C : Addr) (i : Nat) : List V → Hp → VK → Prop := fun xs H Q => ∃ a dx sv l zs, xs = [.ref a] ∧ SlX.Slt H a C dx sv ∧ sv[i]? = some (some (.ref l)) ∧ SqL K H l zs ∧ zs.length < sizeLine ∧
  ∀ q, H q = none → Q (.ref q) (upd H q (.lst zs))
section
variable {X : Cx} {pins : List (Addr × Obj)} {σ : L2.St} {H : Hp} {s : Shared} {a C dx fi fl l it q : Addr} {sv : List (Option V)} {i k : Nat} {zs : List V} {CX : CXT}
theorem slt_upd {b : Addr} {o : HO} (h : SlX.Slt H a C dx sv) (n : H b = none) : SlX.Slt (upd H b o) a C dx sv := by
  rcases h with ⟨h1, h2⟩ | ⟨h1, h2⟩
  · exact .inl ⟨by rw [upd_ne (ne_of_none h1 n)]; exact h1, h2⟩
  · exact .inr ⟨by rw [upd_ne (ne_of_none h1 n)]; exact h1, by rw [upd_ne (ne_of_none h2 n)]; exact h2⟩
theorem sql_upd {K : PySem.W.Frag} {b : Addr} {o : HO} (h : SqL K H l zs) (n : H b = none) : SqL K (upd H b o) l zs := by
  rcases h with (h | ⟨u, h⟩) | h
  · exact .inl (.inl (by rw [upd_ne (ne_of_none h n)]; exact h))
  · exact .inl (.inr ⟨u, by rw [upd_ne (ne_of_none h n)]; exact h⟩)
  · exact .inr h
theorem sql_at {K : PySem.W.Frag} {H' : Hp} (h : SqL K H l zs) (e : H' l = H l) : SqL K H' l zs := by
  unfold SqL Rd at h ⊢
  rw [e]
  exact h
theorem fill_loop {A1 : Around} {Rs : Result → Shared → Prop} {H0 : Hp} (hh : A1.handled = none) (hz : zs.length < sizeLine) (h0 : H0 q = none) (hl : SqL X.K H0 l zs)
    (fin : ∀ s', Inv X pins σ (upd H0 q (.lst zs)) s' → Rs (.ok (.ret .none)) s') :
    ∀ (n j : Nat) (s : Shared), n = zs.length - j → j ≤ zs.length → Inv X pins σ (upd H0 q (.lst (zs.take j))) s → FpOk X pins (upd H0 q (.lst (zs.take j))) it → s.heap.IsListIter it l j →
      codeAny (model X.prog X.w) A1 (.builtin "list.extend.loop" ⟨[.ref q, .ref it, .none], []⟩) Rs s := by
  intro n
  induction n with
  | zero =>
    intro j s hn hj I hf st
    have ej : j = zs.length := by omega
    subst ej
    rw [List.take_length] at I hf
    refine codeAny_builtin PySem.F.entry_extend_loop ?_
    rw [Around.under_plainId PySem.F.plain_extend_loop _]
    obtain ⟨its, rv, pl, hz'⟩ := I.list (sql_upd (o := .lst zs) hl h0)
    obtain ⟨f0, f1, f2, f3, f4, f5⟩ := hf
    show wpAny _ A1.in1 (pyNext (.ref it) >>= _) _ _ s
    have hlen := rv.length
    refine wpAny_bind (wpAny_pyNext_list_end (by show A1.handled = none; exact hh) st pl.isList (by simp; omega) fun h' eb => ?_)
    exact wpAny_pure (fin _ (I.turned (t' := s.toks) (fun b o hb e => eb b o hb e) f0 f1 f3 f4 f5))
  | succ n ih =>
    intro j s hn hj I hf st
    have hlt : j < zs.length := by omega
    refine codeAny_builtin PySem.F.entry_extend_loop ?_
    rw [Around.under_plainId PySem.F.plain_extend_loop _]
    obtain ⟨its, rv, pl, hz'⟩ := I.list (sql_upd (o := .lst (zs.take j)) hl h0)
    obtain ⟨u, hu, ru⟩ := rv.get (List.getElem?_eq_getElem hlt)
    have hf' := hf
    obtain ⟨f0, f1, f2, f3, f4, f5⟩ := hf
    show wpAny _ A1.in1 (pyNext (.ref it) >>= _) _ _ s
    refine wpAny_bind (wpAny_pyNext_list_item st pl.isList (x := u) (by simpa using hu) fun h' st' sb => ?_)
    have I1 : Inv X pins σ (upd H0 q (.lst (zs.take j))) { s with heap := h' } := I.turned (t' := s.toks) (fun b o hb e => (sb.2 b hb).trans e) f0 f1 f3 f4 f5
    show wpAny _ A1.in1 (updateSeq q (·.push u) >>= _) _ _ _
    obtain ⟨z, us, k0, r2, hl2, e2⟩ := I1.lstM (l := q) upd_same
    have hus : us.length = j := by rw [← hl2, List.length_take]; omega
    refine wpAny_bind (wpAny_updateSeq e2 rfl (wpAny_pure ⟨plainId_quiet PySem.F.plain_extend_loop _, ?_⟩) (by rw [List.size_toArray]; omega) (by show (us.toArray.push u).size ≤ sizeLine + 1; rw [Array.size_push, List.size_toArray]; omega))
    have etk : zs.take (j + 1) = zs.take j ++ [zs[j]] := by rw [List.take_add_one, List.getElem?_eq_getElem hlt]; rfl
    have I2 := I1.lset (f := (·.push u)) (its' := us ++ [u]) (ys := zs.take (j + 1)) (t' := s.toks) upd_same e2 (by simp) (by rw [etk]; exact r2.append (.cons ru .nil)) (by rw [List.length_take]; omega)
    rw [upd_upd] at I2
    have hqi : it ≠ q := fun e => by rw [e, upd_same] at f0; cases f0
    refine ih (j + 1) _ (by omega) hlt I2 ⟨by rw [upd_ne hqi]; rw [upd_ne hqi] at f0; exact f0, f1, f2, f3, f4, f5⟩ ?_
    obtain ⟨o, ho, hc, hd⟩ := st'
    exact ⟨o, (Heap.get?_update_other h' (Obj.mapSeq (·.push u)) (Ne.symm hqi)).trans ho, hc, hd⟩
theorem cx0 {P : Program} {w : World} {outer : List Env} {H : Hp} {s : Shared} {e : Value} {s' : Shared} (h : L2.CX P w outer H s E0 e s') : False := by
  obtain ⟨_, _, _, _, _, _, _, _, _, _, _, _, z⟩ := h
  exact z
/-- the room that __len__ tells -/
theorem hint_len {A1 : Around} {Q : Bool → Shared → Prop} (hr : Room k A1.in1) (hA : A1.frames = some X.stack) (hl : LenC X.K C fl) (FL : FnR X.prog X.w X.K X.mg X.base (L2.CX X.prog X.w) k fl (spLen X.K C i))
    (I : Inv X pins σ H s) (hsl : SlX.Slt H a C dx sv) (hi : sv[i]? = some (some (.ref l))) (hq : SqL X.K H l zs) (hz : zs.length < sizeLine) (h : ∀ s' b, Inv X pins σ H s' → (∀ b o, s.heap.get? b = some o → H b = none → b ∉ frs X.stack → s'.heap.get? b = some o) → Q b s') :
    wpAny (model X.prog X.w) A1 (Builtin.List.listLengthHint (.ref a)) Q X.xe s := by
  obtain ⟨sl, od, rs, J, _⟩ := SlX.slt_inst I hsl
  obtain ⟨m, fr⟩ := I.fr
  have e0 : Env0 X.prog X.w X.K X.mg X.base A1.in1 X.stack s H := by
    have e := I.env0
    exact ⟨by show A1.frames = _; exact hA, e.mod, e.bs, e.bsz, e.funs, e.frf, e.hok, e.bare⟩
  have hsp : spLen X.K C i [.ref a] H (fun v H' => v = .int zs.length ∧ H' = H) E0 := ⟨a, dx, sv, l, zs, rfl, hsl, hi, hq, rfl, rfl⟩
  have hz63 : (zs.length : Int) < 2 ^ 63 := by have := line63; omega
  unfold Builtin.List.listLengthHint
  refine wpAny_bind (wpAny_bind (J.type.here ((PySem.W.looks_findIn I.kIn hl.at_).here ?_)))
  refine PySem.W.KFB.if_not rfl ?_
  refine PySem.W.KFB.if_so rfl ?_
  refine wpAny_bind (wpAny_rule (wpAny_bind (wpAny_attempt ?_)))
  refine PySem.W.len_K fr I.ok.mod.kin J hl.at_ hl.fn ?_
  refine wpAny_call (codeAny_mono (FL A1.in1 X.stack s H [.ref a] [.ref a] _ E0 hr e0 (.cons rfl .nil) hsp) fun rr s' hq' => ?_)
  rcases rr with e | f
  · exact (cx0 hq').elim
  · cases f with
    | ret u =>
      obtain ⟨v, H', os, bare, un, hok, rv, ev, eH⟩ := hq'
      subst ev
      rw [eH] at un hok
      obtain ⟨t, rfl⟩ := rv
      have I' : Inv X pins σ H s' := I.call' (ch := []) os un hok bare (fun b z => absurd z (by simp))
      refine ⟨⟨Int.natCast_nonneg _, hz63⟩, ?_⟩
      show wpAny _ _ _ _ _ _
      refine wpAny_bind (wpAny_pure ?_)
      show wpAny _ _ (if Builtin.List.listTooLong (zs.length : Int).toNat then _ else _) _ _ _
      rw [notLongL (by rw [Int.toNat_natCast]; omega), if_neg Bool.false_ne_true]
      exact wpAny_pure (h _ _ (I'.tok _) fun b o e1 e2 e3 => un.keep b o e1 e2 e3 (by simp))
    | _ => exact False.elim hq'
/-- list(o) -/
theorem call_listSl (hc : X.calm = true) (ci : IterC X.K C fi) (FI : FnS X.prog X.w X.K X.mg X.base (L2.CX X.prog X.w) k fi (spIter X.K C i)) (cl : LenC X.K C fl) (FL : FnR X.prog X.w X.K X.mg X.base (L2.CX X.prog X.w) k fl (spLen X.K C i))
    (hr : Room (k + 4) X.A) : CallR X (.type "list") (rListSl X.K C i) := by
  intro pins s σ H xs us Q I rv h
  obtain ⟨a, dx, sv, l, zs, rfl, hsl, hi, hl, hz, hq⟩ := h
  obtain ⟨u, rfl, ru⟩ := vals1 rv
  cases ru
  have hh : X.A.handled = none := I.ok.hd hc
  generalize eq0 : s.heap.objs.size = q at *
  have fr : H q = none := by rw [← eq0]; exact I.hok.fresh (Nat.le_refl _)
  refine callType_codes (Q₁ := fun obj s₁ => obj = .ref q ∧ s₁ = { s with heap := s.heap.push { cls := .type "list", data := .seq #[] } }) PySem.F.called_list (PySem.F.typeCall_list_1 _) PySem.F.entry_list_init
    (code_list_new _ ⟨by rw [eq0], rfl⟩) fun obj s₁ h₁ => ?_
  obtain ⟨rfl, rfl⟩ := h₁
  have hS : (s.heap.push { cls := .type "list", data := .seq #[] }).get? q = some { cls := .type "list", data := .seq #[] } := by rw [← eq0]; exact Heap.get?_push_size _ rfl
  refine ⟨⟨_, hS, rfl⟩, PySem.F.args_list_init_2 _ _, ?_⟩
  have I1 : Inv X pins σ (upd H q (.lst [])) { s with heap := s.heap.push { cls := .type "list", data := .seq #[] } } := by rw [← eq0]; exact I.lnew (its := []) (t' := s.toks) .nil (Nat.zero_le _)
  show wpAny _ _ (do let old ← Builtin.List.listItems (.ref q); Builtin.List.listUpdate (.ref q) (fun _ => #[]); letGo old.toList.reverse; Builtin.List.listExtendWith (.ref q) (.ref a) .none) _ _ _
  refine wpAny_bind ?_
  unfold Builtin.List.listItems
  refine wpAny_bind (wpAny_seqItems hS rfl (wpAny_pure ?_))
  refine wpAny_bind (m := updateSeq q (fun _ => #[])) (wpAny_updateSeq hS rfl ?_)
  have I2 := I1.lset (f := fun _ => #[]) (its := []) (its' := []) (ys := []) (t' := s.toks) upd_same hS rfl .nil (Nat.zero_le _)
  rw [upd_upd] at I2
  refine wpAny_bind (wpAny_letGo ?_)
  -- list.extend
  have hsl2 := slt_upd (o := .lst []) hsl fr
  have hl2 := sql_upd (o := .lst []) hl fr
  generalize ({ s with heap := (s.heap.push { cls := .type "list", data := .seq #[] }).update q (Obj.mapSeq fun _ => #[]) } : Shared) = s2 at I2 ⊢
  obtain ⟨sl, od, rs, J, _⟩ := SlX.slt_inst I2 hsl2
  obtain ⟨m, fr2⟩ := I2.fr
  unfold Builtin.List.listExtendWith
  refine wpAny_bind (J.type.here ?_)
  have hne : q ≠ a := fun e => by
    rcases hsl with ⟨z, _⟩ | ⟨z, _⟩ <;> (rw [← e, fr] at z; cases z)
  have g1 : Builtin.List.listSameRef (.ref q) (.ref a) = false := by simp [Builtin.List.listSameRef, hne]
  have g2 : (Value.ref C == Value.type "list") = false := rfl
  have g3 : (Value.ref C == Value.type "tuple") = false := rfl
  simp only [g1, g2, g3, Bool.or_false, Bool.false_eq_true, if_false]
  refine wpAny_bind (PySem.W.owit_iter fr2 I2.ok.mod.kin J ci.at_ ci.fn ?_)
  have hrA : Room k X.A.in1.in1 := (Room.in1 (Room.in1 (hr.mono (by omega : k + 2 ≤ k + 4))))
  have e0 : ∀ {H' : Hp} {s' : Shared}, Inv X pins σ H' s' → Env0 X.prog X.w X.K X.mg X.base X.A.in1.in1 X.stack s' H' := fun J' => by
    have e := J'.env0
    exact ⟨e.frames, e.mod, e.bs, e.bsz, e.funs, e.frf, e.hok, e.bare⟩
  have hsp : spIter X.K C i s2 [.ref a] (upd H q (.lst [])) (fun v H2 => ∃ it, v = .ref it ∧ (upd H q (.lst [])) it = none ∧ s2.heap.objs.size ≤ it ∧ H2 = upd (upd H q (.lst [])) it (ItO l it 0)) E0 := ⟨a, dx, sv, l, zs, rfl, hsl2, hi, hl2, fun it hn hs => ⟨it, rfl, hn, hs, rfl⟩⟩
  refine wpAny_call (codeAny_mono (FI X.A.in1.in1 X.stack s2 _ [.ref a] [.ref a] _ E0 hrA (e0 I2) (.cons rfl .nil) hsp) fun rr s3 hq' => ?_)
  rcases rr with e | f
  · exact (cx0 hq').elim
  · cases f with
    | ret v =>
      obtain ⟨y, H2, I3, ry, it, ey, hn, hs, eH⟩ := I2.after hq'
      subst ey
      cases ry
      have hi2 : H2 it = some (ItO l it 0) := by rw [eH, upd_same]
      have eo := itO_get I3 hi2
      have hT : s3.TypeIs (.ref it) "list_iterator" := ⟨_, eo, rfl⟩
      show PySem.W.OwitIt _ _ _ _ _ _
      unfold PySem.W.OwitIt
      refine wpAny_specialOf (name := Str.ofString "__next__") hT slot_listiter_next.lookup ?_
      have hi' := hi2
      unfold ItO at hi'
      have I4 := ItX.inv_drop I3 hi'
      have fp4 := ItX.inv_fp I3 hi2 (Nat.le_trans I2.sz hs)
      rw [eH, ItX.dropH_upd hn] at I4 fp4
      refine wpAny_bind (wpAny_holding (hint_len (A1 := X.A.in1.in1) (hr := (Room.in1 (Room.in1 (Room.in1 (hr.mono (by omega : k + 3 ≤ k + 4)))))) I4.ok.frames cl FL I4 hsl2 hi hl2 hz fun s5 b I5 kp => ?_))
      have st5 : s5.heap.IsListIter it l 0 := ⟨_, kp it _ eo fp4.1 (fun z => (List.mem_cons.mp (I4.stkSub it z)).elim fp4.2.1 fp4.2.2.1), rfl, rfl⟩
      obtain ⟨z6, its6, k6, r6, hl6, e6⟩ := I5.lstM (l := q) upd_same
      cases r6
      have goal : ∀ s7, Inv X pins σ (upd H q (.lst [])) s7 → s7.heap.IsListIter it l 0 → codeAny (model X.prog X.w) X.A.in1 (.builtin "list.extend.loop" ⟨[.ref q, .ref it, .none], []⟩) (wants (fun r s₂ => r = .none ∧ EP X pins σ Q (.ref q) s₂) X.xe) s7 := fun s7 I7 st7 =>
        fill_loop (H0 := H) (zs := zs) (by show X.A.handled = none; exact hh) hz fr hl (fun s8 I8 => ⟨rfl, .ref q, _, I8, rfl, hq q fr⟩) zs.length 0 s7 (by omega) (Nat.zero_le _) I7 fp4 st7
      refine wpAny_ite_split (fun _ => ?_) (fun _ => wpAny_pure ⟨plainId_quiet PySem.F.plain_extend_loop _, goal s5 I5 st5⟩)
      refine wpAny_bind (wpAny_rule (wpAny_bind ?_))
      show wpAny _ _ (updateSeq q (·.push .none) >>= fun _ => updateSeq q (·.pop)) _ _ _
      refine wpAny_bind (wpAny_updateSeq e6 rfl ?_)
      have J1 := I5.lset (f := (·.push Value.none)) (its' := [Value.none]) (ys := [.non]) (t' := s5.toks) upd_same e6 (by simp) (.cons rfl .nil) (by rw [List.length_singleton, sizeLine_eq]; decide)
      obtain ⟨z7, its7, k7, r7, hl7, e7⟩ := J1.lstM (l := q) upd_same
      obtain ⟨u7, rfl, ru7⟩ := r7.one
      refine wpAny_updateSeq e7 rfl ?_ (by show 1 ≤ sizeLine; rw [sizeLine_eq]; decide) (by show 0 ≤ sizeLine + 1; exact Nat.zero_le _)
      have J2 := J1.lset (f := (·.pop)) (its := [u7]) (its' := []) (ys := []) (t' := s5.toks) upd_same e7 (by rfl) .nil (Nat.zero_le _)
      rw [upd_upd, upd_upd] at J2
      have hqi : it ≠ q := fun e => by
        have z := fp4.1
        rw [e, upd_same] at z
        cases z
      obtain ⟨o, ho, hoc, hod⟩ := st5
      exact wpAny_pure ⟨plainId_quiet PySem.F.plain_extend_loop _, goal _ J2 ⟨o, (Heap.get?_update_other _ (Obj.mapSeq (·.pop)) (Ne.symm hqi)).trans ((Heap.get?_update_other s5.heap (Obj.mapSeq (·.push Value.none)) (Ne.symm hqi)).trans ho), hoc, hod⟩⟩
    | _ => exact False.elim hq'
end
end Pl

end

section
set_option Elab.async false
set_option linter.all false
set_option maxRecDepth 100000
set_option maxHeartbeats 2000000
/-! PlC: an own exception class below ValueError (through other own classes) whose __init__ says super().__init__(text) and stores its parameters. -/
namespace Pl
open PySem PySem.Spec PyProof.Rows L2

/-- what the written part says of such a class at C; its __init__ at fI, whose cell of __class__ is at cc, whose code object is at cda -/
structure XCls (P : Program) (K : PySem.W.Frag) (mg : Str → Option Value) (C fI cc cda : Addr) : Prop where
  cls : ∃ nm q N bs bm sn sub ab col dd k0 k1 k2 k3 k5, K.lookup C = some (excClassObj nm q C N bs bm true sn sub ab col dd k0 k1 k2 k3 k5 "ValueError.__new__") ∧ PySem.HandSPX.refsVE bm = true
  sa : PySem.W.findIn K (.ref C) "__setattr__" = some (some (.builtin "object.__setattr__"))
  iC : PySem.W.findIn K (.ref C) "__init__" = some (some (.ref fI))
  tC : PySem.W.typeIn K (.ref fI) = some (.type "function")
  kC : PySem.W.keepIn K (.ref C) = true
  exC : PySem.W.subIn K (.ref C) (.type "BaseException") = some true
  tyC : PySem.W.typeIn K (.ref C) = some (.type "type")
  cell : ∃ cl cld csl, K.lookup cc = some ⟨cl, cld, .cell (some (.ref C)), csl⟩
  code : ∃ ccl cdd vs ccs file tf, K.lookup cda = some ⟨ccl, cdd, .fields vs, ccs⟩ ∧ vs[2]? = some (.str file tf) ∧ ((P.main.file : Str) == file) = true
  sub : PySem.W.mroIn K C (.ref C) = some true
  opq : PySem.W.nsIn K cStatics "thirdparty.any" = some none
  sup : PySem.W.ks_superIn K C C "__init__" = some (some (.builtin "ValueError.__init__"))
  subV : PySem.W.subIn K (.ref C) (.type "ValueError") = some true
  nosup : mg "super" = none
  top : (P.main.scope.names.lookup ("super" : Str)).isSome = false
section
variable {P : Program} {w : World} {A : Around} {E : Value → Shared → Prop} {s : Shared} {K : PySem.W.Frag} {mg : Str → Option Value} {C fI cc cda x t0 : Addr} {base : Heap}
theorem bw_call {u e t0 : Addr} {rest : List Value} {Q : Value → Shared → Prop} {hh : Heap} {g : Array GenState} {d : Drawn} {tk : Nat} {os : OsState} {nm q : Str} {N : Addr} {bs bm : List Value} {hdct : Bool} {sn : List Str} {sub : List Value} {ab : Bool} {col : Option Bool} {dd : Option Addr}
    {k0 k1 k2 k3 k5 : Option Value} (hC : hh.get? C = some (excClassObj nm q C N bs bm hdct sn sub ab col dd k0 k1 k2 k3 k5 "ValueError.__new__")) (he : hh.get? e = some (PySem.HandSPX.excO C t0)) (hu : hh.get? u = some (PySem.W.kxs_mw "ValueError.__init__" e)) (hz : rest.length ≤ sizeLine)
    (hq : ∀ h' t1, (∀ b o, b ≠ e → hh.get? b = some o → h'.get? b = some o) → h'.get? e = some (PySem.HandSPX.excO C t1) → Q .none ⟨h', g, d, tk, os⟩) :
    wpAny (model P w) A (call (.ref u) rest) Q E ⟨hh, g, d, tk, os⟩ := by
  refine wpAny_call (codeAny_of_tree ?_)
  show wpAny _ A.in1 (callAny (.ref u) ⟨rest, []⟩) _ _ _
  simp only [callAny]
  refine wpAny_bind (wpAny_load hu ?_)
  simp only [PySem.W.kxs_mw, show (Value.type "method-wrapper" == Value.type "method" || Value.type "method-wrapper" == Value.type "builtin_function_or_method" || Value.type "method-wrapper" == Value.type "method-wrapper") = true by decide, if_true]
  refine PySem.W.KFB.if_so (by decide) ?_
  refine wpAny_bind (PySem.W.check_bound_init F.excBase_ValueError.toExcCallFacts hC he rfl ?_)
  refine wpAny_bind (wpAny_pure (wpAny_pure ?_))
  refine ⟨plainId_quiet F.excBase_ValueError.init.plain _, codeAny_builtin F.excBase_ValueError.initEntry ?_⟩
  refine PySem.W.exc_init_tree (cls := .ref C) (t0 := t0) (dv := none) (c2 := .none) (c3 := .none) (b4 := .bool false) he hz fun h' kp e' _ => ?_
  exact hq h' _ kp e'
theorem boot_super : bootBuiltins "super" = some (.type "super") := by first | rfl | decide +kernel
theorem sup_stmt {body : List Stmt} {env : Env} {fd : FuncData} {oc : Value} {od : Option Addr} {osl : Array (Option Value)} {ar : Arg} {m : Str → Option Value} {p0 p1 p2 p3 p4 p5 : Pos} {tx : Str} {j : Nat} {Q : Flow → Shared → Prop}
    (T : XCls P K mg C fI cc cda) (X : K.In s.heap) (G : s.heap.Ns mainGlobals mg) (B : ∃ mb, s.heap.Ns builtinsNs mb ∧ ∀ y : Str, y ≠ "__name__" → mb y = bootBuiltins y)
    (hf : K.lookup fI = some ⟨oc, od, .func fd, osl⟩) (hp : (fd.params.posonlyargs ++ fd.params.args).head? = some ar) (he : env.globals = mainGlobals) (heb : env.builtins = builtinsNs) (hef : env.func = some fI) (hec : env.code = .ref cda)
    (hcell : env.cells.lookup ("__class__" : Str) = some cc) (hk : env.scope.kind = .function) (hks : env.kindOf "super" = some .globalImplicit) (hkc : env.kindOf "__class__" = some .free) (hka : env.kindOf ar.arg = some .local)
    (hn : s.heap.Ns env.locals m) (hv : m ar.arg = some (.ref x)) (hx : s.heap.get? x = some (PySem.HandSPX.excO C t0)) (hsw : interactive env = false) {pl : Sem Bool}
    (hmc : eval (.Call (.Attribute (.Call (.Name "super" p0) [] [] p1) "__init__" p2) [.Constant (.str tx) j p3] [] p4) env = (do
      let ov ← attributeBase (.Call (.Name "super" p0) [] [] p1) "__init__" env (eval (.Call (.Name "super" p0) [] [] p1) env)
      standAt p2.atName
      let (f, first) ← holding [ov] (getMethod ov "__init__" pl)
      callWith p4 f first (backTo p4 (starEach [.Constant (.str tx) j p3] env)) []))
    (hss : swapsWith (.Call (.Attribute (.Call (.Name "super" p0) [] [] p1) "__init__" p2) [.Constant (.str tx) j p3] [] p4) none p5.line env = pure false)
    (hq : ∀ h' tk t1, (∀ b o, b ≠ x → s.heap.get? b = some o → h'.get? b = some o) → h'.get? x = some (PySem.HandSPX.excO C t1) → Q .next { s with heap := h', toks := tk }) :
    PySem.wpAt (model P w) A (.func body env) (exec (.Expr (.Call (.Attribute (.Call (.Name "super" p0) [] [] p1) "__init__" p2) [.Constant (.str tx) j p3] [] p4) p5) env) Q E s := by
  obtain ⟨nm, q, N, bs, bm, sn, sub, ab, col, dd, k0, k1, k2, k3, k5, hC, hbm⟩ := T.cls
  obtain ⟨cl, cld, csl, hcc⟩ := T.cell
  obtain ⟨ccl, cdd, vs, ccs, file, tf, hcda, hvs, hfile⟩ := T.code
  obtain ⟨mb, Bn, Bb⟩ := B
  obtain ⟨hh, g, d, t, os⟩ := s
  have J : PySem.W.InstAt hh x (PySem.HandSPX.excO C t0) C none := ⟨hx, rfl, rfl, trivial⟩
  refine PySem.ks_wpAt_Expr_any (PySem.ks_wpAt_MethodCall ?_ hmc) hsw hss
  refine PySem.ks_wpAt_super_base hks hkc rfl hef (X _ _ hf) rfl hp hec (X _ _ hcda) rfl hvs hfile T.top ?_
  refine PySem.W.ks_loadName_global hk hks (Calls.loadGlobal_builtin (by rw [he]; exact G) T.nosup (by rw [heb]; exact Bn) ((Bb _ (by decide +kernel)).trans boot_super) ⟨rfl, ?_⟩)
  refine wpAny_loadName_free hk hkc hcell ⟨_, X _ _ hcc, rfl⟩ ?_
  refine wpAny_loadName_local hk hka hn hv ?_
  refine PySem.ks_wpAny_isType_cls (X _ _ hC) rfl ⟨rfl, ?_⟩
  refine PySem.ks_wpAny_call_super (X _ _ hC) rfl hx rfl (fun c e => by cases e) (PySem.W.looks_mroIn X T.sub) (fun h1 e1 kp1 => ?_)
  -- getMethod
  have X1 : K.In h1 := X.keeps kp1
  have J1 : PySem.W.InstAt h1 x (PySem.HandSPX.excO C t0) C none := ⟨kp1 _ _ hx, rfl, rfl, trivial⟩
  have hsup := T.sup
  unfold PySem.W.ks_superIn at hsup
  cases hc : PySem.W.clsIn K C with
  | none => rw [hc] at hsup; cases hsup
  | some cd =>
    rw [hc] at hsup
    refine PySem.W.kxs_getMethod PySem.W.kxs_ValueError e1 (PySem.W.looks_opaque X1 T.opq) (l₀ := cd.mro) (fun A Q E s kk q => wpAny_bind ((PySem.W.looks_clsIn X1 hc) A _ E s kk (wpAny_pure q))) rfl X1 hsup (J1.type.andThen (PySem.W.looks_subIn X1 T.subV)) (PySem.W.ks_ne X1 J1 hc) rfl ?_
    refine PySem.W.kxs_callWith (i := "ValueError.__init__") (x := x) rfl (PySem.Calls.evalArgs_plain (PySem.Calls.spliced_cons (PySem.Calls.Constant_str (pos := p3) (k := j) (PySem.Calls.spliced_nil ?_))))
    have up : ∀ b o, h1.get? b = some o → (h1.push (PySem.W.kxs_mw "ValueError.__init__" x)).get? b = some o := fun b o e => Heap.get?_push_of_some _ e
    have hu : (h1.push (PySem.W.kxs_mw "ValueError.__init__" x)).get? h1.objs.size = some (PySem.W.kxs_mw "ValueError.__init__" x) := Heap.get?_push_at rfl rfl
    refine ⟨hu, bw_call (up _ _ (X1 _ _ hC)) (up _ _ (kp1 _ _ hx)) hu (by show 1 ≤ sizeLine; rw [sizeLine_eq]; decide) fun h' t1 kp2 e2 => ?_⟩
    exact hq h' _ t1 (fun b o hb e => kp2 b o hb (up b o (kp1 b o e))) e2
end
end Pl

end

section
set_option Elab.async false
set_option linter.all false
set_option maxRecDepth 100000
set_option maxHeartbeats 2000000
namespace Pl
open PySem PySem.Spec PyProof.Rows L2

def xSup (tx : Str) (j : Nat) (p0 p1 p2 p3 p4 p5 : Pos) : Stmt := .Expr (.Call (.Attribute (.Call (.Name "super" p0) [] [] p1) "__init__" p2) [.Constant (.str tx) j p3] [] p4) p5
def xPut (f : Str) (q1 q2 q3 q4 : Pos) : Stmt := .Assign [.Attribute (.Name "self" q1) f q2] (.Name f q3) q4
def xArg (x : Str) (p : Pos) : Arg := { arg := x, annotation := none, pos := p }
def xPar (as : List Arg) : Arguments := { posonlyargs := [], args := as, vararg := none, kwonlyargs := [], kw_defaults := [], kwarg := none, defaults := [] }
def xSc (fs : List Str) : Scope := { kind := .function, names := (PySem.Str.ofString "self", .local) :: fs.map (fun f => (f, .local)) ++ [(PySem.Str.ofString "__class__", .free), (PySem.Str.ofString "super", .globalImplicit)], isGenerator := false, isCoroutine := false, more := [] }
/-- the super().__init__(..) of the text is a method's call in one line -/
def SupOk (tx : Str) (j : Nat) (p0 p1 p2 p3 p4 p5 : Pos) : Prop := ∀ env : Env, env.scope.kind = .function → (∃ pl, eval (.Call (.Attribute (.Call (.Name "super" p0) [] [] p1) "__init__" p2) [.Constant (.str tx) j p3] [] p4) env = (do
      let ov ← attributeBase (.Call (.Name "super" p0) [] [] p1) "__init__" env (eval (.Call (.Name "super" p0) [] [] p1) env)
      standAt p2.atName
      let (f, first) ← holding [ov] (getMethod ov "__init__" pl)
      callWith p4 f first (backTo p4 (starEach [.Constant (.str tx) j p3] env)) [])) ∧
    swapsWith (.Call (.Attribute (.Call (.Name "super" p0) [] [] p1) "__init__" p2) [.Constant (.str tx) j p3] [] p4) none p5.line env = pure false
/-- what __init__ leaves of a fresh exception at x: its own dict at dx holds g -/
structure XEnd (h h' : Heap) (x C dx t1 : Addr) (g : Str → Option Value) : Prop where
  keep : ∀ b o, b ≠ x → h.get? b = some o → h'.get? b = some o
  obj : h'.get? x = some { cls := .ref C, dict := some dx, data := .fields #[.ref t1, .none, .none, .none, .bool false, .none] }
  dbig : h.objs.size ≤ dx
  dne : dx ≠ x
  ns : h'.Ns1 dx g
/-- __init__'s function object -/
structure XFn (K : PySem.W.Frag) (fI cc cda : Addr) (as : List Arg) (body : List Stmt) (sc : Scope) : Prop where
  ex : ∃ oc od qual doc pm an ct osl, K.lookup fI = some ⟨oc, od, .func (PySem.W.ksFn "__init__" qual (xPar as) body sc .none .none doc pm an (.ref cda) ct cc), osl⟩ ∧ PySem.W.codeIn K (.ref cda) qual = true
section
variable {P : Program} {w : World} {A : Around} {E : Value → Shared → Prop} {R : Result → Shared → Prop} {s : Shared} {K : PySem.W.Frag} {mg : Str → Option Value} {C fI cc cda x t0 : Addr} {f1 f2 tx : Str} {j : Nat} {p0 p1 p2 p3 p4 p5 a0 a1 a2 q1 q2 q3 q4 r1 r2 r3 r4 : Pos} {v1 v2 : Value}
theorem nsK {h h' : Heap} {L : Addr} {m : Str → Option Value} (k : ∀ b o, h.get? b = some o → h'.get? b = some o) (n : h.Ns L m) : h'.Ns L m := by
  obtain ⟨o, es, ep, e, r⟩ := n
  exact ⟨o, es, ep, k _ _ e, r⟩
theorem xs_self {fs : List Str} : (xSc fs).names.lookup ("self" : Str) = some .local := by
  show List.lookup ("self" : Str) ((("self" : Str), NameKind.local) :: _) = _
  rw [List.lookup_cons_self]
theorem lk_ne {α : Type} {x y : Str} {v : α} {l : List (Str × α)} (h : x ≠ y) : List.lookup x ((y, v) :: l) = List.lookup x l := by
  have e : (x == y) = false := by simpa using h
  simp [List.lookup, e]
theorem xs_f1 (h : f1 ≠ "self") : (xSc [f1]).names.lookup f1 = some .local := by
  show List.lookup f1 ((("self" : Str), NameKind.local) :: (f1, NameKind.local) :: _) = _
  rw [lk_ne h, List.lookup_cons_self]
theorem xs_super (h1 : f1 ≠ "super") : (xSc [f1]).names.lookup ("super" : Str) = some .globalImplicit := by
  show List.lookup ("super" : Str) ((("self" : Str), NameKind.local) :: (f1, NameKind.local) :: (("__class__" : Str), NameKind.free) :: (("super" : Str), NameKind.globalImplicit) :: []) = _
  rw [lk_ne (by decide), lk_ne (Ne.symm h1), lk_ne (by decide), List.lookup_cons_self]
theorem xs_class (h1 : f1 ≠ "__class__") : (xSc [f1]).names.lookup ("__class__" : Str) = some .free := by
  show List.lookup ("__class__" : Str) ((("self" : Str), NameKind.local) :: (f1, NameKind.local) :: (("__class__" : Str), NameKind.free) :: (("super" : Str), NameKind.globalImplicit) :: []) = _
  rw [lk_ne (by decide), lk_ne (Ne.symm h1), List.lookup_cons_self]
theorem x1_init (T : XCls P K mg C fI cc cda) (F : XFn K fI cc cda [xArg "self" a0, xArg f1 a1] [xSup tx j p0 p1 p2 p3 p4 p5, xPut f1 q1 q2 q3 q4] (xSc [f1])) (so : SupOk tx j p0 p1 p2 p3 p4 p5) (no1 : PySem.W.findIn K (.ref C) f1 = some none)
    (hf1 : f1 ≠ "self") (hf2 : f1 ≠ "super") (hf3 : f1 ≠ "__class__") (hf4 : (f1 == ("__debug__" : Str)) = false) (hnx : K.lookup x = none) (X : K.In s.heap) (G : s.heap.Ns mainGlobals mg) (B : ∃ mb, s.heap.Ns builtinsNs mb ∧ ∀ y : Str, y ≠ "__name__" → mb y = bootBuiltins y) (hlim : s.heap.NoLimit) (hx : s.heap.get? x = some (PySem.HandSPX.excO C t0)) (hroom : A.depth < recursionLimit)
    (hb : ∀ qual doc pm an ct, BindsTo s (PySem.W.ksFn "__init__" qual (xPar [xArg "self" a0, xArg f1 a1]) [xSup tx j p0 p1 p2 p3 p4 p5, xPut f1 q1 q2 q3 q4] (xSc [f1]) .none .none doc pm an (.ref cda) ct cc) ⟨[.ref x, v1], []⟩ [("self", .ref x), (f1, v1)])
    (hq : ∀ h' tk dx t1, XEnd s.heap h' x C dx t1 (fun y => if y = f1 then some v1 else none) → R (.ok (.ret .none)) { s with heap := h', toks := tk }) :
    codeAny (model P w) A (.call (.ref fI) ⟨[.ref x, v1], []⟩) R s := by
  obtain ⟨oc, od, qual, doc, pm, an, ct, osl, hf, hcd⟩ := F.ex
  obtain ⟨nm, q, N, bs, bm, sn, sub, ab, col, dd, k0, k1, k2, k3, k5, hC, hbm⟩ := T.cls
  have hcl : PySem.W.clsIn K C = some { name := nm, bases := bs, mro := .ref C :: bm, ns := N, qualname := q, hasDict := true, slotNames := sn, subclasses := sub, abstract := ab, collection := col, hasDel := false } := by unfold PySem.W.clsIn; rw [hC] <;> rfl
  refine PySem.ks_codeAny_call_defAt (binds := [("self", .ref x), (f1, v1)]) hroom (X _ _ hf) rfl hlim (PySem.W.codeRec_of X hcd) rfl (hb _ _ _ _ _) ?_ ?_ (fun h₀ hns kp => ?_)
  · intro y hy
    have : y = (PySem.Str.ofString "self", .local) ∨ y = (f1, .local) ∨ y = (PySem.Str.ofString "__class__", .free) ∨ y = (PySem.Str.ofString "super", .globalImplicit) := by simpa [xSc] using hy
    rcases this with e | e | e | e <;> (rw [e]; exact fun z => nomatch z)
  · intro y hy
    have : y = (("self" : Str), .ref x) ∨ y = (f1, v1) := by simpa using hy
    rcases this with e | e
    · rw [e]; exact xs_self
    · rw [e]; exact xs_f1 hf1
  · have kin : K.In h₀ := X.keeps kp
    have hxL : s.heap.objs.size ≠ x := Nat.ne_of_gt (Heap.lt_size hx)
    obtain ⟨⟨pl, hmc⟩, hss⟩ := so (callEnv (PySem.W.ksFn "__init__" qual (xPar [xArg "self" a0, xArg f1 a1]) [xSup tx j p0 p1 p2 p3 p4 p5, xPut f1 q1 q2 q3 q4] (xSc [f1]) .none .none doc pm an (.ref cda) ct cc) s.heap.objs.size fI) rfl
    refine PySem.ks_wpAt_execs_cons (sup_stmt (ar := xArg "self" a0) (m := fun y => ([("self", Value.ref x), (f1, v1)] : List (Str × Value)).reverse.lookup y) (x := x) (t0 := t0) (s := { s with heap := h₀, toks := s.toks + 2 }) T kin (nsK kp G) ?_ hf rfl rfl rfl rfl rfl rfl rfl (xs_super hf2) (xs_class hf3) xs_self hns ?_ (kp _ _ hx) rfl hmc hss ?_)
    · obtain ⟨mb, b1, b2⟩ := B
      exact ⟨mb, nsK kp b1, b2⟩
    · show List.lookup ("self" : Str) ((f1, v1) :: (("self" : Str), Value.ref x) :: []) = _
      rw [lk_ne (Ne.symm hf1), List.lookup_cons_self]
    · intro h1 tk1 t1 k1' hx1
      have nL : h1.Ns s.heap.objs.size (fun y => ([("self", Value.ref x), (f1, v1)] : List (Str × Value)).reverse.lookup y) := by
        obtain ⟨o, es, ep, e, r⟩ := hns
        exact ⟨o, es, ep, k1' _ _ hxL e, r⟩
      have kin1 : K.In h1 := fun b o e => k1' b o (fun z => by
        rw [z, hnx] at e
        cases e) (kin b o e)
      show PySem.wpAt _ _ _ (execs [xPut f1 q1 q2 q3 q4] _) _ _ _
      refine PySem.ks_wpAt_execs_cons (PySem.ks_wpAt_Assign_Attr ?_ ?_)
      · refine PySem.wpAt_of_wpAny ?_
        refine ldc (v := v1) (by rfl) (by exact xs_f1 hf1) nL (by show List.lookup f1 ((f1, v1) :: _) = some v1; rw [List.lookup_cons_self]) ?_ hf4
        refine ldc (v := .ref x) (by rfl) (by exact xs_self) nL (by show List.lookup ("self" : Str) ((f1, v1) :: (("self" : Str), Value.ref x) :: []) = some (.ref x); rw [lk_ne (Ne.symm hf1), List.lookup_cons_self]) ?_ (by decide)
        refine PySem.W.set_plain kin1 (ox := PySem.HandSPX.excO C t1) (od := none) ⟨hx1, rfl, rfl, trivial⟩ T.sa ?_
        refine PySem.HandSPX.exc_osa kin1 hx1 hcl (show PySem.HandSPX.refsVE (.ref C :: bm) = true from hbm) rfl no1 (fun h3 tk3 dx k3 dn dne hx3 hn3 => ?_)
        show PySem.wpAt _ _ _ (execs [] _) _ _ _
        refine PySem.wpAt_of_wpAny (wpAny_execs_nil (hq h3 tk3 dx t1 ⟨fun b o hb e => k3 b o hb (k1' b o hb (kp b o e)), hx3, ?_, dne, hn3⟩))
        have z : s.heap.objs.size < h1.objs.size := nL.lt
        exact Nat.le_trans (Nat.le_of_lt z) dn
      · rfl
/-- all that is known of such a class and its __init__ of one field -/
structure X1 (P : Program) (K : PySem.W.Frag) (mg : Str → Option Value) (xn f1 : Str) (C fI cc cda : Addr) (tx : Str) (j : Nat) (a0 a1 p0 p1 p2 p3 p4 p5 q1 q2 q3 q4 : Pos) : Prop where
  T : XCls P K mg C fI cc cda
  F : XFn K fI cc cda [xArg "self" a0, xArg f1 a1] [xSup tx j p0 p1 p2 p3 p4 p5, xPut f1 q1 q2 q3 q4] (xSc [f1])
  so : SupOk tx j p0 p1 p2 p3 p4 p5
  no1 : PySem.W.findIn K (.ref C) f1 = some none
  n1 : f1 ≠ "self"
  n2 : f1 ≠ "super"
  n3 : f1 ≠ "__class__"
  n4 : (f1 == ("__debug__" : Str)) = false
  bd : ∀ x v qual doc pm an ct, bindArgs (PySem.W.ksFn "__init__" qual (xPar [xArg "self" a0, xArg f1 a1]) [xSup tx j p0 p1 p2 p3 p4 p5, xPut f1 q1 q2 q3 q4] (xSc [f1]) .none .none doc pm an (.ref cda) ct cc) ⟨[.ref x, v], []⟩ = pure [(("self" : Str), .ref x), (f1, v)]
  gC : mg xn = some (.ref C)
/-- a made exception -/
structure XMade (h h' : Heap) (e C d : Addr) (g : Str → Option Value) : Prop where
  keep : ∀ b o, h.get? b = some o → h'.get? b = some o
  new : h.objs.size ≤ e
  obj : ∃ oe vs, h'.get? e = some oe ∧ oe.cls = .ref C ∧ oe.dict = some d ∧ oe.data = .fields vs ∧ vs[1]? = some .none
  dbig : h.objs.size ≤ d
  dne : d ≠ e
  ns : h'.Ns1 d g
theorem x1_made {xn : Str} (D : X1 P K mg xn f1 C fI cc cda tx j a0 a1 p0 p1 p2 p3 p4 p5 q1 q2 q3 q4) (X : K.In s.heap) (G : s.heap.Ns mainGlobals mg) (B : ∃ mb, s.heap.Ns builtinsNs mb ∧ ∀ y : Str, y ≠ "__name__" → mb y = bootBuiltins y) (hlim : s.heap.NoLimit) (hroom : A.depth + 1 < recursionLimit)
    (hq : ∀ h' tk e d, XMade s.heap h' e C d (fun y => if y = f1 then some v1 else none) → R (.ok (.ret (.ref e))) { s with heap := h', toks := tk }) :
    codeAny (model P w) A (.call (.ref C) ⟨[v1], []⟩) R s := by
  obtain ⟨nm, q, N, bs, bm, sn, sub, ab, col, dd, k0, k1, k2, k3, k5, hC, hbm⟩ := D.T.cls
  obtain ⟨hp, g, dr, tk, os⟩ := s
  have kp : ∀ b o, hp.get? b = some o → ((hp.push (PySem.W.kdv_tup [v1])).push (PySem.HandSPX.excO C hp.objs.size)).get? b = some o := fun b o e => Heap.get?_push_of_some _ (Heap.get?_push_of_some _ e)
  have hget : ((hp.push (PySem.W.kdv_tup [v1])).push (PySem.HandSPX.excO C hp.objs.size)).get? (hp.objs.size + 1) = some (PySem.HandSPX.excO C hp.objs.size) := by heap_get
  have hnx : K.lookup (hp.objs.size + 1) = none := by
    cases e : K.lookup (hp.objs.size + 1) with
    | none => rfl
    | some o => exact absurd (Nat.lt_of_succ_lt (Heap.lt_size (show hp.get? (hp.objs.size + 1) = some o from X _ _ e))) (Nat.lt_irrefl _)
  refine PySem.HandSPX.call_own F.excBase_ValueError (fun X => PySem.HandSPX.refsVE_contains X bm hbm) (X _ _ hC) (PySem.W.looks_findIn X D.T.iC) (fun self => PySem.W.bind_fn X self D.T.tC) (by show 1 ≤ sizeLine; rw [sizeLine_eq]; decide) ?_
  obtain ⟨mb, b1, b2⟩ := B
  refine x1_init (s := ⟨(hp.push (PySem.W.kdv_tup [v1])).push (PySem.HandSPX.excO C hp.objs.size), g, dr, tk, os⟩) D.T D.F D.so D.no1 D.n1 D.n2 D.n3 D.n4 hnx (X.keeps kp) (nsK kp G) ⟨mb, nsK kp b1, b2⟩ (hlim.keeps kp) hget ?_ (fun qual doc pm an ct => .of_eq (D.bd _ _ _ _ _ _ _)) fun h' tk' dx t1 ⟨k', hx, dn, dne, hns⟩ => ?_
  · show A.depth + 1 < recursionLimit
    exact hroom
  · have z : hp.objs.size + 1 + 1 ≤ dx := by
      have q := dn
      rw [show (((hp.push (PySem.W.kdv_tup [v1])).push (PySem.HandSPX.excO C hp.objs.size)).objs.size) = hp.objs.size + 1 + 1 by rw [Heap.size_push, Heap.size_push]] at q
      exact q
    exact ⟨rfl, hq h' tk' (hp.objs.size + 1) dx ⟨fun b o e => k' b o (Nat.ne_of_lt (Nat.lt_succ_of_lt (Heap.lt_size e))) (kp b o e), Nat.le_succ _, ⟨_, _, hx, rfl, rfl, rfl, rfl⟩, Nat.le_trans (Nat.le_trans (Nat.le_succ _) (Nat.le_succ _)) z, dne, hns⟩⟩
end
/-- xn(e): a new dict d with the field f1 -/
def tMkX1 (C : Addr) (f1 : Str) (ta : TA) : L2.St → Hp → XK → Prop := fun σ H Q => ta σ H fun vs H1 => ∃ v, vs = [v] ∧ ∀ d, H1 d = none → Q (.ref C) (some d) (upd H1 d (.xd [(f1, v)]))
section
variable {X : Cx} {C fI cc cda : Addr} {xn f1 tx : Str} {j k : Nat} {a0 a1 p0 p1 p2 p3 p4 p5 q1 q2 q3 q4 : Pos}
theorem relO_1 {v : V} {v' : Value} (r : RelV v v') (f : Str) : RelO (List.lookup f [(f1, v)]) (if f = f1 then some v' else none) := by
  by_cases h : f = f1
  · subst h
    rw [if_pos rfl, List.lookup_cons_self]
    exact r
  · rw [if_neg h, lk_ne h]
    trivial
theorem mk_made {pins : List (Addr × Obj)} {σ : L2.St} {H1 : Hp} {Q : XK} {hp h' : Heap} {g : Array GenState} {dr : Drawn} {tk tk' : Nat} {os : OsState} {e d : Addr} {fs : List (Str × V)} {gg : Str → Option Value} (exC : PySem.W.subIn X.K (.ref C) (.type "BaseException") = some true) (tyC : PySem.W.typeIn X.K (.ref C) = some (.type "type"))
    (I1 : Inv X pins σ H1 ⟨hp, g, dr, tk, os⟩) (M : XMade hp h' e C d gg) (r : ∀ f, RelO (fs.lookup f) (gg f)) (q : Q (.ref C) (some d) (upd H1 d (.xd fs))) : MkP X pins σ Q (.ref e) ⟨h', g, dr, tk', os⟩ := by
  obtain ⟨oe, fv, hoe, hc, hd, hdat, h1⟩ := M.obj
  obtain ⟨G, g1, g2⟩ := restrict h' fun b => decide (b ≠ e)
  have gk : ∀ b, b ≠ e → G.get? b = h'.get? b := fun b hb => g1 b (decide_eq_true hb)
  have ge : G.get? e = none := g2 e (by simp)
  have old : ∀ b o, hp.get? b = some o → G.get? b = some o := fun b o q => (gk b (Nat.ne_of_lt (Nat.lt_of_lt_of_le (Heap.lt_size q) M.new))).trans (M.keep b o q)
  have ob : ObjOk X.prog X.w (upd H1 d (.xd fs)) G d (.xd fs) := ⟨_, M.ns.at (fun o q => (gk d M.dne).trans q), r⟩
  have J : Inv X pins σ (upd H1 d (.xd fs)) ⟨G, g, dr, tk', os⟩ := I1.laid (t' := tk') old M.dbig ob
  refine ⟨e, oe, fv, ⟨G, g, dr, tk', os⟩, _, .ref C, some d, rfl, J, fun b o q => ?_, ge, hoe, ⟨hc, hd⟩, hdat, h1, ?_, rfl, I1.bare, raises_own exC tyC, q⟩
  · by_cases hb : b = e
    · have q' : G.get? b = some o := q
      rw [hb, ge] at q'
      cases q'
    · exact (gk b hb).symm.trans q
  · rw [upd_ne (Ne.symm M.dne)]
    exact I1.hok.fresh M.new
theorem pmk_x1 {a : Expr} {ta : TA} {p pos : Pos} (D : X1 X.prog X.K X.mg xn f1 C fI cc cda tx j a0 a1 p0 p1 p2 p3 p4 p5 q1 q2 q3 q4) (hr : Room k X.A) (hk : 1 ≤ k) (ha : PA X [a] ta) (hg : Gl X xn) (hdb : (xn == ("__debug__" : Str)) = false := by decide)
    (he : starEach (a :: []) X.env = (false, eval a X.env) :: starEach [] X.env := by rfl) (hpl : (backTo pos (starEach [] X.env)).any (·.1) = false := by rfl) : PMk X (.Call (.Name xn p) [a] [] pos) (tMkX1 C f1 ta) := by
  intro pins s σ H Q I h
  refine wpAny_Call_Name_kw (ld_glob I hg D.gC ?_ hdb)
  refine PySem.W.callWith_K (h₀ := X.base) I.ok.mod.kin D.T.kC (thn (ha.run pos pins s σ H _ I h) fun us s1 hh => ?_) he hpl
  obtain ⟨vs, H1, I1, r1, v, ev, q1⟩ := hh
  subst ev
  refine ⟨I1.kIn, ?_⟩
  cases r1 with
  | cons rv rn =>
    rename_i v' us'
    cases rn
    show wpAny _ _ (call (.ref C) [v']) _ _ _
    have hlim := I1.nolimit
    obtain ⟨mb, b1, b2⟩ := I1.mod.blt
    have B := b1.keeps I1.bk
    have G := I1.mod.glob.keeps I1.bk
    obtain ⟨hp, g, dr, tk, os⟩ := s1
    refine wpAny_call (x1_made D I1.kIn G ⟨mb, B, b2⟩ hlim (by have := hr.dp; omega) fun h' tk' e d M => ?_)
    exact mk_made D.T.exC D.T.tyC I1 M (relO_1 rv) (q1 d (I1.hok.fresh M.dbig))
/-- raise xn(e) -/
def tRaiseX1 (C : Addr) (f1 : Str) (W : WX) (ta : TA) : TS := fun _ σ H => tMkX1 C f1 ta σ H fun cls d H' => W cls d σ H'
theorem ps_raiseX1 {a : Expr} {ta : TA} {W : WX} {p pos pos2 : Pos} (hc : X.calm = true) (D : X1 X.prog X.K X.mg xn f1 C fI cc cda tx j a0 a1 p0 p1 p2 p3 p4 p5 q1 q2 q3 q4) (hr : Room k X.A) (hk : 1 ≤ k) (tk : Takes X W) (ha : PA X [a] ta) (hg : Gl X xn) (hdb : (xn == ("__debug__" : Str)) = false := by decide)
    (he : starEach (a :: []) X.env = (false, eval a X.env) :: starEach [] X.env := by rfl) (hpl : (backTo pos (starEach [] X.env)).any (·.1) = false := by rfl) :
    PS X (.Raise (some (.Call (.Name xn p) [a] [] pos)) none pos2) (tRaiseX1 C f1 W ta) := ps_raise hc tk (pmk_x1 D hr hk ha hg hdb he hpl)
end
end Pl

end

section
set_option Elab.async false
set_option linter.all false
set_option maxRecDepth 100000
set_option maxHeartbeats 2000000
/-! PlE: the same with two fields. -/
namespace Pl
open PySem PySem.Spec PyProof.Rows L2
section
variable {P : Program} {w : World} {A : Around} {E : Value → Shared → Prop} {R : Result → Shared → Prop} {s : Shared} {K : PySem.W.Frag} {mg : Str → Option Value} {C fI cc cda x t0 : Addr} {f1 f2 tx : Str} {j : Nat} {p0 p1 p2 p3 p4 p5 a0 a1 a2 q1 q2 q3 q4 r1 r2 r3 r4 : Pos} {v1 v2 : Value}
theorem xs2_f1 (h : f1 ≠ "self") : (xSc [f1, f2]).names.lookup f1 = some .local := by
  show List.lookup f1 ((("self" : Str), NameKind.local) :: (f1, NameKind.local) :: _) = _
  rw [lk_ne h, List.lookup_cons_self]
theorem xs2_f2 (h : f2 ≠ "self") (h2 : f2 ≠ f1) : (xSc [f1, f2]).names.lookup f2 = some .local := by
  show List.lookup f2 ((("self" : Str), NameKind.local) :: (f1, NameKind.local) :: (f2, NameKind.local) :: _) = _
  rw [lk_ne h, lk_ne h2, List.lookup_cons_self]
theorem xs2_super (h1 : f1 ≠ "super") (h2 : f2 ≠ "super") : (xSc [f1, f2]).names.lookup ("super" : Str) = some .globalImplicit := by
  show List.lookup ("super" : Str) ((("self" : Str), NameKind.local) :: (f1, NameKind.local) :: (f2, NameKind.local) :: (("__class__" : Str), NameKind.free) :: (("super" : Str), NameKind.globalImplicit) :: []) = _
  rw [lk_ne (by decide), lk_ne (Ne.symm h1), lk_ne (Ne.symm h2), lk_ne (by decide), List.lookup_cons_self]
theorem xs2_class (h1 : f1 ≠ "__class__") (h2 : f2 ≠ "__class__") : (xSc [f1, f2]).names.lookup ("__class__" : Str) = some .free := by
  show List.lookup ("__class__" : Str) ((("self" : Str), NameKind.local) :: (f1, NameKind.local) :: (f2, NameKind.local) :: (("__class__" : Str), NameKind.free) :: (("super" : Str), NameKind.globalImplicit) :: []) = _
  rw [lk_ne (by decide), lk_ne (Ne.symm h1), lk_ne (Ne.symm h2), List.lookup_cons_self]
/-- the names of two fields stand apart from the others and from one another -/
structure N2 (f1 f2 : Str) : Prop where
  n1 : f1 ≠ "self"
  n2 : f1 ≠ "super"
  n3 : f1 ≠ "__class__"
  n4 : (f1 == ("__debug__" : Str)) = false
  m1 : f2 ≠ "self"
  m2 : f2 ≠ "super"
  m3 : f2 ≠ "__class__"
  m4 : (f2 == ("__debug__" : Str)) = false
  d : f2 ≠ f1
def g2 (f1 f2 : Str) (v1 v2 : Value) : Str → Option Value := fun y => if y = f2 then some v2 else if y = f1 then some v1 else none
theorem x2_init (T : XCls P K mg C fI cc cda) (F : XFn K fI cc cda [xArg "self" a0, xArg f1 a1, xArg f2 a2] [xSup tx j p0 p1 p2 p3 p4 p5, xPut f1 q1 q2 q3 q4, xPut f2 r1 r2 r3 r4] (xSc [f1, f2])) (so : SupOk tx j p0 p1 p2 p3 p4 p5) (no1 : PySem.W.findIn K (.ref C) f1 = some none) (no2 : PySem.W.findIn K (.ref C) f2 = some none)
    (n : N2 f1 f2) (hnx : K.lookup x = none) (X : K.In s.heap) (G : s.heap.Ns mainGlobals mg) (B : ∃ mb, s.heap.Ns builtinsNs mb ∧ ∀ y : Str, y ≠ "__name__" → mb y = bootBuiltins y) (hlim : s.heap.NoLimit) (hx : s.heap.get? x = some (PySem.HandSPX.excO C t0)) (hroom : A.depth < recursionLimit)
    (hb : ∀ qual doc pm an ct, BindsTo s (PySem.W.ksFn "__init__" qual (xPar [xArg "self" a0, xArg f1 a1, xArg f2 a2]) [xSup tx j p0 p1 p2 p3 p4 p5, xPut f1 q1 q2 q3 q4, xPut f2 r1 r2 r3 r4] (xSc [f1, f2]) .none .none doc pm an (.ref cda) ct cc) ⟨[.ref x, v1, v2], []⟩ [("self", .ref x), (f1, v1), (f2, v2)])
    (hq : ∀ h' tk dx t1, XEnd s.heap h' x C dx t1 (g2 f1 f2 v1 v2) → R (.ok (.ret .none)) { s with heap := h', toks := tk }) :
    codeAny (model P w) A (.call (.ref fI) ⟨[.ref x, v1, v2], []⟩) R s := by
  obtain ⟨oc, od, qual, doc, pm, an, ct, osl, hf, hcd⟩ := F.ex
  obtain ⟨nm, q, N, bs, bm, sn, sub, ab, col, dd, k0, k1, k2, k3, k5, hC, hbm⟩ := T.cls
  have hcl : PySem.W.clsIn K C = some { name := nm, bases := bs, mro := .ref C :: bm, ns := N, qualname := q, hasDict := true, slotNames := sn, subclasses := sub, abstract := ab, collection := col, hasDel := false } := by unfold PySem.W.clsIn; rw [hC] <;> rfl
  refine PySem.ks_codeAny_call_defAt (binds := [("self", .ref x), (f1, v1), (f2, v2)]) hroom (X _ _ hf) rfl hlim (PySem.W.codeRec_of X hcd) rfl (hb _ _ _ _ _) ?_ ?_ (fun h₀ hns kp => ?_)
  · intro y hy
    have : y = (PySem.Str.ofString "self", .local) ∨ y = (f1, .local) ∨ y = (f2, .local) ∨ y = (PySem.Str.ofString "__class__", .free) ∨ y = (PySem.Str.ofString "super", .globalImplicit) := by simpa [xSc] using hy
    rcases this with e | e | e | e | e <;> (rw [e]; exact fun z => nomatch z)
  · intro y hy
    have : y = (("self" : Str), .ref x) ∨ y = (f1, v1) ∨ y = (f2, v2) := by simpa using hy
    rcases this with e | e | e
    · rw [e]; exact xs_self
    · rw [e]; exact xs2_f1 n.n1
    · rw [e]; exact xs2_f2 n.m1 n.d
  · have kin : K.In h₀ := X.keeps kp
    have hxL : s.heap.objs.size ≠ x := Nat.ne_of_gt (Heap.lt_size hx)
    have ls : List.lookup ("self" : Str) ((f2, v2) :: (f1, v1) :: (("self" : Str), Value.ref x) :: []) = some (.ref x) := by rw [lk_ne (Ne.symm n.m1), lk_ne (Ne.symm n.n1), List.lookup_cons_self]
    have l1 : List.lookup f1 ((f2, v2) :: (f1, v1) :: (("self" : Str), Value.ref x) :: []) = some v1 := by rw [lk_ne (Ne.symm n.d), List.lookup_cons_self]
    have l2 : List.lookup f2 ((f2, v2) :: (f1, v1) :: (("self" : Str), Value.ref x) :: []) = some v2 := by rw [List.lookup_cons_self]
    obtain ⟨⟨pl, hmc⟩, hss⟩ := so (callEnv (PySem.W.ksFn "__init__" qual (xPar [xArg "self" a0, xArg f1 a1, xArg f2 a2]) [xSup tx j p0 p1 p2 p3 p4 p5, xPut f1 q1 q2 q3 q4, xPut f2 r1 r2 r3 r4] (xSc [f1, f2]) .none .none doc pm an (.ref cda) ct cc) s.heap.objs.size fI) rfl
    refine PySem.ks_wpAt_execs_cons (sup_stmt (ar := xArg "self" a0) (m := fun y => ([("self", Value.ref x), (f1, v1), (f2, v2)] : List (Str × Value)).reverse.lookup y) (x := x) (t0 := t0) (s := { s with heap := h₀, toks := s.toks + 3 }) T kin (nsK kp G) ?_ hf rfl rfl rfl rfl rfl rfl rfl (xs2_super n.n2 n.m2) (xs2_class n.n3 n.m3) xs_self hns ls (kp _ _ hx) rfl hmc hss ?_)
    · obtain ⟨mb, b1, b2⟩ := B
      exact ⟨mb, nsK kp b1, b2⟩
    · intro h1 tk1 t1 k1' hx1
      have nL : h1.Ns s.heap.objs.size (fun y => ([("self", Value.ref x), (f1, v1), (f2, v2)] : List (Str × Value)).reverse.lookup y) := by
        obtain ⟨o, es, ep, e, r⟩ := hns
        exact ⟨o, es, ep, k1' _ _ hxL e, r⟩
      have nx : ∀ {h : Heap}, (∀ b o, b ≠ x → h₀.get? b = some o → h.get? b = some o) → K.In h := fun kk b o e => kk b o (fun z => by
        rw [z, hnx] at e
        cases e) (kin b o e)
      have kin1 : K.In h1 := nx k1'
      show PySem.wpAt _ _ _ (execs [xPut f1 q1 q2 q3 q4, xPut f2 r1 r2 r3 r4] _) _ _ _
      refine PySem.ks_wpAt_execs_cons (PySem.ks_wpAt_Assign_Attr ?_ (by rfl))
      refine PySem.wpAt_of_wpAny ?_
      refine ldc (v := v1) (by rfl) (by exact xs2_f1 n.n1) nL l1 ?_ n.n4
      refine ldc (v := .ref x) (by rfl) (by exact xs_self) nL ls ?_ (by decide)
      refine PySem.W.set_plain kin1 (ox := PySem.HandSPX.excO C t1) (od := none) ⟨hx1, rfl, rfl, trivial⟩ T.sa ?_
      refine PySem.HandSPX.exc_osa kin1 hx1 hcl (show PySem.HandSPX.refsVE (.ref C :: bm) = true from hbm) rfl no1 (fun h3 tk3 dx k3 dn dne hx3 hn3 => ?_)
      have kk3 : ∀ b o, b ≠ x → h₀.get? b = some o → h3.get? b = some o := fun b o hb e => k3 b o hb (k1' b o hb e)
      have kin3 : K.In h3 := nx kk3
      have nL3 : h3.Ns s.heap.objs.size (fun y => ([("self", Value.ref x), (f1, v1), (f2, v2)] : List (Str × Value)).reverse.lookup y) := by
        obtain ⟨o, es, ep, e, r⟩ := nL
        exact ⟨o, es, ep, k3 _ _ hxL e, r⟩
      show PySem.wpAt _ _ _ (execs [xPut f2 r1 r2 r3 r4] _) _ _ _
      refine PySem.ks_wpAt_execs_cons (PySem.ks_wpAt_Assign_Attr ?_ (by rfl))
      refine PySem.wpAt_of_wpAny ?_
      refine ldc (v := v2) (by rfl) (by exact xs2_f2 n.m1 n.d) nL3 l2 ?_ n.m4
      refine ldc (v := .ref x) (by rfl) (by exact xs_self) nL3 ls ?_ (by decide)
      have hw : Within (fun y => if y = f1 then some v1 else none) [f1] := fun y hy => by
        by_cases e : y = f1
        · rw [e]; exact List.mem_cons_self
        · exact absurd (if_neg e) hy
      obtain ⟨oD, _, _, hoD, _, _⟩ := hn3.count hw
      refine PySem.W.set_plain kin3 (ox := { cls := .ref C, dict := some dx, data := .fields #[.ref t1, .none, .none, .none, .bool false, .none] }) (od := some oD) ⟨hx3, rfl, rfl, hoD⟩ T.sa ?_
      refine PySem.OEX.osa_old kin3 hx3 hn3 hw (by show 1 ≤ 1000; decide) hcl (show PySem.HandSPX.refsVE (.ref C :: bm) = true from hbm) rfl no2 (fun h4 tk4 k4 hn4 => ?_)
      show PySem.wpAt _ _ _ (execs [] _) _ _ _
      have z : s.heap.objs.size < h1.objs.size := nL.lt
      have dL : ∀ b o, s.heap.get? b = some o → b ≠ dx := fun b o e => Nat.ne_of_lt (Nat.lt_of_lt_of_le (Heap.lt_size e) (Nat.le_trans (Nat.le_of_lt z) dn))
      refine PySem.wpAt_of_wpAny (wpAny_execs_nil (hq h4 tk4 dx t1 ⟨fun b o hb e => k4 b o (dL b o e) (kk3 b o hb (kp b o e)), k4 _ _ (Ne.symm dne) hx3, Nat.le_trans (Nat.le_of_lt z) dn, dne, hn4⟩))
/-- all that is known of such a class and its __init__ of two fields -/
structure X2 (P : Program) (K : PySem.W.Frag) (mg : Str → Option Value) (xn f1 f2 : Str) (C fI cc cda : Addr) (tx : Str) (j : Nat) (a0 a1 a2 p0 p1 p2 p3 p4 p5 q1 q2 q3 q4 r1 r2 r3 r4 : Pos) : Prop where
  T : XCls P K mg C fI cc cda
  F : XFn K fI cc cda [xArg "self" a0, xArg f1 a1, xArg f2 a2] [xSup tx j p0 p1 p2 p3 p4 p5, xPut f1 q1 q2 q3 q4, xPut f2 r1 r2 r3 r4] (xSc [f1, f2])
  so : SupOk tx j p0 p1 p2 p3 p4 p5
  no1 : PySem.W.findIn K (.ref C) f1 = some none
  no2 : PySem.W.findIn K (.ref C) f2 = some none
  n : N2 f1 f2
  bd : ∀ x v v' qual doc pm an ct, bindArgs (PySem.W.ksFn "__init__" qual (xPar [xArg "self" a0, xArg f1 a1, xArg f2 a2]) [xSup tx j p0 p1 p2 p3 p4 p5, xPut f1 q1 q2 q3 q4, xPut f2 r1 r2 r3 r4] (xSc [f1, f2]) .none .none doc pm an (.ref cda) ct cc) ⟨[.ref x, v, v'], []⟩ = pure [(("self" : Str), .ref x), (f1, v), (f2, v')]
  gC : mg xn = some (.ref C)
theorem x2_made {xn : Str} (D : X2 P K mg xn f1 f2 C fI cc cda tx j a0 a1 a2 p0 p1 p2 p3 p4 p5 q1 q2 q3 q4 r1 r2 r3 r4) (X : K.In s.heap) (G : s.heap.Ns mainGlobals mg) (B : ∃ mb, s.heap.Ns builtinsNs mb ∧ ∀ y : Str, y ≠ "__name__" → mb y = bootBuiltins y) (hlim : s.heap.NoLimit) (hroom : A.depth + 1 < recursionLimit)
    (hq : ∀ h' tk e d, XMade s.heap h' e C d (g2 f1 f2 v1 v2) → R (.ok (.ret (.ref e))) { s with heap := h', toks := tk }) :
    codeAny (model P w) A (.call (.ref C) ⟨[v1, v2], []⟩) R s := by
  obtain ⟨nm, q, N, bs, bm, sn, sub, ab, col, dd, k0, k1, k2, k3, k5, hC, hbm⟩ := D.T.cls
  obtain ⟨hp, g, dr, tk, os⟩ := s
  have kp : ∀ b o, hp.get? b = some o → ((hp.push (PySem.W.kdv_tup [v1, v2])).push (PySem.HandSPX.excO C hp.objs.size)).get? b = some o := fun b o e => Heap.get?_push_of_some _ (Heap.get?_push_of_some _ e)
  have hget : ((hp.push (PySem.W.kdv_tup [v1, v2])).push (PySem.HandSPX.excO C hp.objs.size)).get? (hp.objs.size + 1) = some (PySem.HandSPX.excO C hp.objs.size) := by heap_get
  have hnx : K.lookup (hp.objs.size + 1) = none := by
    cases e : K.lookup (hp.objs.size + 1) with
    | none => rfl
    | some o => exact absurd (Nat.lt_of_succ_lt (Heap.lt_size (show hp.get? (hp.objs.size + 1) = some o from X _ _ e))) (Nat.lt_irrefl _)
  refine PySem.HandSPX.call_own F.excBase_ValueError (fun X => PySem.HandSPX.refsVE_contains X bm hbm) (X _ _ hC) (PySem.W.looks_findIn X D.T.iC) (fun self => PySem.W.bind_fn X self D.T.tC) (by show 2 ≤ sizeLine; rw [sizeLine_eq]; decide) ?_
  obtain ⟨mb, b1, b2⟩ := B
  refine x2_init (s := ⟨(hp.push (PySem.W.kdv_tup [v1, v2])).push (PySem.HandSPX.excO C hp.objs.size), g, dr, tk, os⟩) D.T D.F D.so D.no1 D.no2 D.n hnx (X.keeps kp) (nsK kp G) ⟨mb, nsK kp b1, b2⟩ (hlim.keeps kp) hget ?_ (fun qual doc pm an ct => .of_eq (D.bd _ _ _ _ _ _ _ _)) fun h' tk' dx t1 ⟨k', hx, dn, dne, hns⟩ => ?_
  · show A.depth + 1 < recursionLimit
    exact hroom
  · have z : hp.objs.size + 1 + 1 ≤ dx := by
      have q := dn
      rw [show (((hp.push (PySem.W.kdv_tup [v1, v2])).push (PySem.HandSPX.excO C hp.objs.size)).objs.size) = hp.objs.size + 1 + 1 by rw [Heap.size_push, Heap.size_push]] at q
      exact q
    exact ⟨rfl, hq h' tk' (hp.objs.size + 1) dx ⟨fun b o e => k' b o (Nat.ne_of_lt (Nat.lt_succ_of_lt (Heap.lt_size e))) (kp b o e), Nat.le_succ _, ⟨_, _, hx, rfl, rfl, rfl, rfl⟩, Nat.le_trans (Nat.le_trans (Nat.le_succ _) (Nat.le_succ _)) z, dne, hns⟩⟩
end
/-- xn(e, e'): a new dict d with both fields -/
def tMkX2 (C : Addr) (f1 f2 : Str) (ta : TA) : L2.St → Hp → XK → Prop := fun σ H Q => ta σ H fun vs H1 => ∃ v v', vs = [v, v'] ∧ ∀ d, H1 d = none → Q (.ref C) (some d) (upd H1 d (.xd [(f2, v'), (f1, v)]))
section
variable {X : Cx} {C fI cc cda : Addr} {xn f1 f2 tx : Str} {j k : Nat} {a0 a1 a2 p0 p1 p2 p3 p4 p5 q1 q2 q3 q4 r1 r2 r3 r4 : Pos}
theorem relO_2 {v v' : V} {u u' : Value} (r : RelV v u) (r' : RelV v' u') (f : Str) : RelO (List.lookup f [(f2, v'), (f1, v)]) (g2 f1 f2 u u' f) := by
  unfold g2
  by_cases h : f = f2
  · subst h
    rw [if_pos rfl, List.lookup_cons_self]
    exact r'
  · rw [if_neg h, lk_ne h]
    exact relO_1 r f
theorem pmk_x2 {a b : Expr} {ta : TA} {p pos : Pos} (D : X2 X.prog X.K X.mg xn f1 f2 C fI cc cda tx j a0 a1 a2 p0 p1 p2 p3 p4 p5 q1 q2 q3 q4 r1 r2 r3 r4) (hr : Room k X.A) (hk : 1 ≤ k) (ha : PA X [a, b] ta) (hg : Gl X xn) (hdb : (xn == ("__debug__" : Str)) = false := by decide)
    (he : starEach (a :: [b]) X.env = (false, eval a X.env) :: starEach [b] X.env := by rfl) (hpl : (backTo pos (starEach [b] X.env)).any (·.1) = false := by rfl) : PMk X (.Call (.Name xn p) [a, b] [] pos) (tMkX2 C f1 f2 ta) := by
  intro pins s σ H Q I h
  refine wpAny_Call_Name_kw (ld_glob I hg D.gC ?_ hdb)
  refine PySem.W.callWith_K (h₀ := X.base) I.ok.mod.kin D.T.kC (thn (ha.run pos pins s σ H _ I h) fun us s1 hh => ?_) he hpl
  obtain ⟨vs, H1, I1, r1, v, v', ev, q1⟩ := hh
  subst ev
  refine ⟨I1.kIn, ?_⟩
  obtain ⟨u, u', rfl, rv, rv'⟩ := vals2 r1
  show wpAny _ _ (call (.ref C) [u, u']) _ _ _
  have hlim := I1.nolimit
  obtain ⟨mb, b1, b2⟩ := I1.mod.blt
  have B := b1.keeps I1.bk
  have G := I1.mod.glob.keeps I1.bk
  obtain ⟨hp, g, dr, tk, os⟩ := s1
  refine wpAny_call (x2_made D I1.kIn G ⟨mb, B, b2⟩ hlim (by have := hr.dp; omega) fun h' tk' e d M => ?_)
  exact mk_made D.T.exC D.T.tyC I1 M (relO_2 rv rv') (q1 d (I1.hok.fresh M.dbig))
/-- raise xn(e, e') -/
def tRaiseX2 (C : Addr) (f1 f2 : Str) (W : WX) (ta : TA) : TS := fun _ σ H => tMkX2 C f1 f2 ta σ H fun cls d H' => W cls d σ H'
theorem ps_raiseX2 {a b : Expr} {ta : TA} {W : WX} {p pos pos2 : Pos} (hc : X.calm = true) (D : X2 X.prog X.K X.mg xn f1 f2 C fI cc cda tx j a0 a1 a2 p0 p1 p2 p3 p4 p5 q1 q2 q3 q4 r1 r2 r3 r4) (hr : Room k X.A) (hk : 1 ≤ k) (tk : Takes X W) (ha : PA X [a, b] ta) (hg : Gl X xn) (hdb : (xn == ("__debug__" : Str)) = false := by decide)
    (he : starEach (a :: [b]) X.env = (false, eval a X.env) :: starEach [b] X.env := by rfl) (hpl : (backTo pos (starEach [b] X.env)).any (·.1) = false := by rfl) :
    PS X (.Raise (some (.Call (.Name xn p) [a, b] [] pos)) none pos2) (tRaiseX2 C f1 f2 W ta) := ps_raise hc tk (pmk_x2 D hr hk ha hg hdb he hpl)
end
end Pl

end

section
set_option Elab.async false
set_option linter.all false
set_option maxRecDepth 100000
set_option maxHeartbeats 4000000
/-! PlF: a set comprehension over ints. -/
namespace Pl
open PySem PySem.Spec PyProof.Rows L2

/-- one turn's end: y goes into the set at D -/
def addI (w : World) (D : Addr) (N : Hp → Prop) (y : V) (H : Hp) : Prop := ∃ (k : Int) (S : Int → Bool) (n : Nat), y = .int k ∧ H D = some (SetO w D S n) ∧ n + 1 < scanBound ∧ N (upd H D (SetO w D (fun j => S j || decide (j = k)) (if S k = true then n else n + 1)))
/-- one turn: the target, the tests, the element -/
def turnI (w : World) (g : TG) (tt : TT) (te : TE) (vs : List Nat) (σ : L2.St) (D : Addr) (N : Hp → Prop) (x : V) (H : Hp) : Prop :=
  g x (wipe σ vs) H fun σ2 H2 => wipe σ2 vs = wipe σ vs ∧ tt σ2 H2 fun b H3 => if b = true then te σ2 H3 (addI w D N) else N H3
/-- {elt for target in iter if ..}, elt an int: D the new set -/
def tScI (w : World) (wi : TI) (g : TG) (tt : TT) (te : TE) (vs : List Nat) : TE := fun σ H Q => wi σ H fun J H1 => ∀ D, H1 D = none → ∃ W : Nat → Nat → Hp → Prop, (∃ m, W 0 m (upd H1 D (SetO w D (fun _ => false) 0))) ∧
  ∀ i m H, W i m H → (J.stop i H ∧ Q (.ref D) H) ∨ (J.go i H ∧ ∃ N : Hp → Prop, (∀ H', N H' → ∃ m', m' < m ∧ W (i + 1) m' H') ∧ ∀ x H', J.yld i H x H' → turnI w g tt te vs σ D N x H')
section
variable {X : Cx}
theorem addI_ok {pins : List (Addr × Obj)} {σ : L2.St} {H : Hp} {s : Shared} {E : Value → Shared → Prop} {D : Addr} {N : Hp → Prop} {y : V} {u : Value} {Q : Value → Shared → Prop} (I : Inv X pins σ H s) (r : RelV y u) (h : addI X.w D N y H)
    (hq : ∀ s' H', Inv X pins σ H' s' → N H' → Q .none s') : wpAny (model X.prog X.w) X.A (call (.builtin "set.add") [.ref D, u]) Q E s := by
  obtain ⟨k, S, n, rfl, hD, room, hN⟩ := h
  obtain ⟨tk, rfl⟩ := r
  refine setR_add (setO_get I hD) room fun h' sb new => ?_
  obtain ⟨o, ho⟩ : ∃ o, h'.get? D = some o := by
    have ⟨o, _, _, _, ho, _⟩ := new
    exact ⟨o, ho⟩
  exact hq _ _ (I.write (e := D) (t' := s.toks + 1) (by rw [hD]; trivial) (.inl rfl) (fun b x hb hx => (sb.2 b hb).trans hx) ⟨o, ho⟩ (setO_new new)) hN
theorem pe_scI {elt tg iter : Expr} {ifs : List Expr} {scope : Scope} {own : List (PySem.Str × Nat)} {pos : Pos} {wi : TI} {g : TG} {tt : TT} {te : TE} (hc : X.calm = true) (hN : X.N.Nodup) (hi : PI X tg iter wi) (ok : BlkOk X.N X.env.scope scope own)
    (hg : ∀ (s : Shared) (H : Hp) (C : Addr) (cl : List (PySem.Str × Addr)) (fp : List Addr), PG (X.blk s H scope (compEnvC scope cl C X.env) fp) tg g) (ht : ∀ (s : Shared) (H : Hp) (C : Addr) (cl : List (PySem.Str × Addr)) (fp : List Addr), PTs (X.blk s H scope (compEnvC scope cl C X.env) fp) ifs tt)
    (he : ∀ (s : Shared) (H : Hp) (C : Addr) (cl : List (PySem.Str × Addr)) (fp : List Addr), PE (X.blk s H scope (compEnvC scope cl C X.env) fp) elt te) (hs : ∀ x, foldedSetIterable iter X.env x = pure x := by intro _; rfl) :
    PE X (.SetComp elt [⟨tg, iter, ifs, 0⟩] scope pos) (tScI X.w wi g tt te (own.map (·.2))) := by
  refine ⟨fun pins s σ H Q I h => ?_⟩
  rw [PpSet.eval_SetComp]
  have hfree : ∀ y ∈ scope.names, y.2 = .free → ∃ c, X.env.cells.lookup y.1 = some c := fun y hy e => (ok.free y hy e).elim (fun k => I.ok.has _ (.inl k)) fun k => I.ok.has _ (.inr k)
  refine wpAny_comprehension_free (use := none) rfl hs (closure_ok hfree) ok.kind (fun y hy e => by rw [ok.uniq y hy, e]) (thn (hi.run pins s σ H _ I h) fun xv s1 hx => thn hx fun itv s2 h2 => ?_)
  obtain ⟨it, fp, tn, J, H2, e, I2, T, st2, f2, q⟩ := h2
  subst e
  refine PpSet.newSet_ok (newEnv_comp ?_)
  generalize hD : s2.heap.objs.size = D
  have hDn : H2 D = none := I2.hok.fresh (Nat.le_of_eq hD)
  obtain ⟨W, ⟨m0, w0⟩, turn⟩ := q D hDn
  let O0 : Obj := { cls := .type "set", dict := none, data := .set #[] 0 (.fresh 0 0 (!X.w.params.followText "set-order")) }
  have kp3 : ∀ b o, s2.heap.get? b = some o → (s2.heap.push O0).get? b = some o := fun b o z => Heap.get?_push_of_some _ z
  have sz3 : (s2.heap.push O0).objs.size = s2.heap.objs.size + 1 := Heap.size_push _ _
  have I3 : Inv X pins σ (upd H2 D (SetO X.w D (fun _ => false) 0)) { s2 with heap := s2.heap.push O0 } :=
    I2.laid (t' := s2.toks) kp3 (Nat.le_of_eq hD) (by rw [← hD]; exact setO_new (setR_fresh X.w))
  have f3 : ∀ b ∈ fp, FpOk X pins (upd H2 D (SetO X.w D (fun _ => false) 0)) b ∧ b < (s2.heap.push O0).objs.size := fun b hb => by
    obtain ⟨o, z, _⟩ := T.obj _ _ st2 b hb
    have lt := Heap.lt_size z
    exact ⟨⟨by rw [upd_ne (by rw [← hD]; exact Nat.ne_of_lt lt)]; exact (f2 b hb).1, (f2 b hb).2⟩, by rw [sz3]; exact Nat.lt_succ_of_lt lt⟩
  have st3 : tn 0 (s2.heap.push O0) := T.keep _ _ _ st2 fun b _ o z => kp3 b o z
  have cs : ({ s2 with heap := s2.heap.push O0 } : Shared).heap = s2.heap.push O0 := rfl
  generalize ({ s2 with heap := s2.heap.push O0 } : Shared) = s3 at I3 cs ⊢
  rw [← cs] at f3 st3
  generalize upd H2 D (SetO X.w D (fun _ => false) 0) = H3 at I3 f3 w0
  have I4 := block_start I3 ok hN f3
  have pg := hg s3 H3 s3.heap.objs.size (cellsFrom (s3.heap.objs.size + 1) scope.names (cloFrom X.env.cells scope.names [])) fp
  have pt := ht s3 H3 s3.heap.objs.size (cellsFrom (s3.heap.objs.size + 1) scope.names (cloFrom X.env.cells scope.names [])) fp
  have pe := he s3 H3 s3.heap.objs.size (cellsFrom (s3.heap.objs.size + 1) scope.names (cloFrom X.env.cells scope.names [])) fp
  show codeAny _ _ (.compStart (.SetComp elt [⟨tg, iter, ifs, 0⟩] scope pos) 0 (.ref it) (.ref D) (compEnvC scope (cellsFrom (s3.heap.objs.size + 1) scope.names (cloFrom X.env.cells scope.names [])) s3.heap.objs.size X.env)) (compPost (model X.prog X.w) X.A X.xe none (EP X pins σ Q) (.ref D) s3.heap.objs.size) { s3 with heap := pushCells (s3.heap.push { cls := .type "dict", data := .dict #[] }) scope.names }
  have st4 : tn 0 (pushCells (s3.heap.push { cls := .type "dict", data := .dict #[] }) scope.names) := T.keep _ _ _ st3 fun b _ o z => pushCells_keeps _ _ _ _ (Heap.get?_push_of_some _ z)
  generalize hce : compEnvC scope (cellsFrom (s3.heap.objs.size + 1) scope.names (cloFrom X.env.cells scope.names [])) s3.heap.objs.size X.env = ce at I4 pg pt pe ⊢
  have cL : ce.locals = s3.heap.objs.size := by subst hce; rfl
  have nfp : ∀ b ∈ fp, H3 b = none := fun b hb => (f3 b hb).1.1
  have stat : ∀ {σ' : L2.St} {H' : Hp} {s' : Shared}, Inv (X.blk s3 H3 scope ce fp) [] σ' H' s' → (∀ b ∈ fp, H' b = none) → ∀ b ∈ fp, FpOk (X.blk s3 H3 scope ce fp) [] H' b := fun {σ' H' s'} I' hn b hb =>
    ⟨hn b hb, (I'.ok.exf b hb).1, I'.ok.exfs b hb, .inl hb, fun x c z => (I'.ok.exf b hb).2 x c z, fun p hp => absurd (show p ∈ ([] : List (Addr × Obj)) ++ [] from hp) (by simp)⟩
  refine PpSet.codeAny_compStart_set ?_ (T.self X.A 0 _ _ _ st4 ?_)
  rotate_left
  all_goals
    refine PpSet.compLoopS_any (fun n s' => ∃ i H', Inv (X.blk s3 H3 scope ce fp) [] (wipe σ (own.map (·.2))) H' s' ∧ tn i s'.heap ∧ (∀ b ∈ fp, H' b = none) ∧ W i n H') ?_ m0 ⟨0, H3, I4, st4, nfp, w0⟩
    rintro n s5 ⟨i, H5, I5, st5, n5, w5⟩
    rcases turn i n H5 w5 with ⟨stop, qq⟩ | ⟨go, N, hNx, step⟩
    · refine thnF (T.done (X.blk s3 H3 scope ce fp) rfl rfl rfl hc i [] s5 _ H5 (fun _ _ => False) I5 (stat I5 n5) st5 stop) fun r s6 ⟨hr, I6⟩ => ?_
      subst hr
      have I7 : Inv X pins σ H5 s6 := I3.call' (ch := fp) I6.os I6.base I6.hok I6.bare fun b hb => ⟨(f3 b hb).1.2.2.2.1, (f3 b hb).1.2.1, (f3 b hb).1.2.2.2.2.1, (f3 b hb).1.2.2.2.2.2⟩
      have nC : H5 s3.heap.objs.size = none := by
        have z : H5 ce.locals = none := I6.free
        rw [cL] at z
        exact z
      obtain ⟨m, hn, _⟩ := I6.loc
      have hn' : s6.heap.Ns s3.heap.objs.size m := by rw [← cL]; exact hn
      obtain ⟨g0, g1, g2, g3, g4, g5⟩ := I3.fpOk (Nat.le_refl _) nC
      exact ⟨m, hn', fun h'' sb => ⟨.ref D, H5, I7.turned (t' := s6.toks) (fun b o hb z => (sb.2 b hb).trans z) g0 g1 g3 g4 g5, rfl, qq⟩⟩
    · refine thnF (T.item (X.blk s3 H3 scope ce fp) rfl rfl rfl hc i [] s5 _ H5 (fun _ _ => False) I5 (stat I5 n5) st5 go) fun r s6 ⟨u, hr, h6⟩ => ?_
      subst hr
      refine thnF h6 fun _ s7 ⟨x, H7, I7, r7, y7, st7, n7⟩ => ?_
      refine thnF (pg.run _ s7 _ H7 x u _ (I7.pinned (stat I7 n7) (T.obj _ _ st7)) r7 (step x H7 y7)) fun _ s8 ⟨σ8, H8, I8, hw8, q8⟩ => ?_
      refine thnF (pt.run _ s8 σ8 H8 _ I8 q8) fun b s9 ⟨H9, I9, q9⟩ => ?_
      have fin : ∀ {s' : Shared} {H' : Hp}, Inv (X.blk s3 H3 scope ce fp) ([] ++ pinsAt fp s7.heap) σ8 H' s' → N H' → ∃ m, m < n ∧ ∃ i H', Inv (X.blk s3 H3 scope ce fp) [] (wipe σ (own.map (·.2))) H' s' ∧ tn i s'.heap ∧ (∀ b ∈ fp, H' b = none) ∧ W i m H' := fun {s' H'} I' nx => by
        obtain ⟨m', hm, w'⟩ := hNx H' nx
        have pin' : ∀ b ∈ fp, ∀ o, s7.heap.get? b = some o → s'.heap.get? b = some o ∧ H' b = none := fun b hb o z =>
          have y := I'.pin (b, o) (List.mem_append_right _ (List.mem_append_right _ (mem_pinsAt hb z)))
          ⟨y.1, y.2.1⟩
        refine ⟨m', hm, i + 1, H', (I'.unpinned (pins := [])).weak (by rw [← hw8, wipe_length]) (fun j v z => ?_), T.keep _ _ _ st7 fun b hb o z => (pin' b hb o z).1, fun b hb => ?_, w'⟩
        · rw [← hw8] at z
          exact (wipe_some z).1
        · obtain ⟨o, z, _⟩ := T.obj _ _ st7 b hb
          exact (pin' b hb o z).2
      cases b with
      | false => exact fin I9 q9
      | true =>
        refine thnF (pe.run _ s9 σ8 H9 _ I9 q9) fun z s10 ⟨yv, H10, I10, r10, q10⟩ => ?_
        exact addI_ok (X := X.blk s3 H3 scope ce fp) I10 r10 q10 fun s11 H11 I11 n11 => fin I11 n11
end
end Pl

end

section
set_option Elab.async false
set_option linter.all false
set_option maxRecDepth 100000
set_option maxHeartbeats 2000000
/-! PlG: promises by positional values and keywords; calls, methods, makings, properties by them. -/
namespace Pl
open PySem PySem.Spec PyProof.Rows L2

/-- a promise by values: the positional ones, then those of the keywords ks -/
def FnA (P : Program) (w : World) (K : PySem.W.Frag) (mg : Str → Option Value) (base : Heap) (k : Nat) (f : Addr) (ks : List Str) (sp : Sp) : Prop :=
  ∀ (A : Around) (outer : List Env) (s : Shared) (H : Hp) (us ws : List Value) (vs zs : List V) (Q : VK) (E : XK), Room k A → Env0 P w K mg base A outer s H → Vals vs us → Vals zs ws → ws.length = ks.length → sp (vs ++ zs) H Q E →
    codeAny (model P w) A (.call (.ref f) ⟨us, ks.zip ws⟩) (CR (L2.CX P w) outer P w H s Q E) s
section
variable {P : Program} {w : World} {K : PySem.W.Frag} {mg : Str → Option Value} {base : Heap} {k j : Nat} {f : Addr} {ks : List Str} {sp sp' : Sp}
theorem FnA.mono (F : FnA P w K mg base j f ks sp) (h : j ≤ k) : FnA P w K mg base k f ks sp := fun A outer s H us ws vs zs Q E hr => F A outer s H us ws vs zs Q E (hr.mono h)
theorem FnA.imp (F : FnA P w K mg base k f ks sp) (h : ∀ vs H Q E, sp' vs H Q E → sp vs H Q E) : FnA P w K mg base k f ks sp' := fun A outer s H us ws vs zs Q E hr e0 r1 r2 l hs => F A outer s H us ws vs zs Q E hr e0 r1 r2 l (h _ _ _ _ hs)
theorem FnA.r (F : FnA P w K mg base k f [] sp) : FnR P w K mg base (L2.CX P w) k f sp := fun A outer s H us vs Q E hr e0 r h =>
  F A outer s H us [] vs [] Q E hr e0 r .nil rfl (by rw [List.append_nil]; exact h)
theorem FnA.ofR (F : FnR P w K mg base (L2.CX P w) k f sp) : FnA P w K mg base k f [] sp := by
  intro A outer s H us ws vs zs Q E hr e0 r1 r2 l h
  cases ws with
  | nil =>
    cases r2
    rw [List.append_nil] at h
    exact F A outer s H us vs Q E hr e0 r1 h
  | cons a b => cases l
/-- from a def's body; how the values are bound -/
theorem fna_of {fd : FuncData} {ps : List Str} (F : FnOk P w K mg base (L2.CX P w) k f fd ps sp) (hb : ∀ (s : Shared) (us ws : List Value), K.In s.heap → (us ++ ws).length = ps.length → ws.length = ks.length → BindsTo s fd ⟨us, ks.zip ws⟩ (ps.zip (us ++ ws))) : FnA P w K mg base k f ks sp := by
  intro A outer s H us ws vs zs Q E hr e0 r1 r2 l h
  have r := r1.append r2
  have hl : (us ++ ws).length = ps.length := by rw [← r.length]; exact F.len _ _ _ _ h
  exact F.run A outer s H ⟨us, ks.zip ws⟩ (us ++ ws) (vs ++ zs) Q E hr e0 (hb s us ws (e0.mod.kin.keeps fun b o e => (e0.bs b o e).1) hl l) r h
/-- .. where defaults fill up the positional ones -/
theorem fna_dfl {fd : FuncData} {ps : List Str} {ds : List Value} {dvs : List V} (F : FnOk P w K mg base (L2.CX P w) k f fd ps sp) (hb : Binds K fd ps ds) (hd : Vals dvs ds) : FnA P w K mg base k f [] (fun vs H Q E => sp (vs ++ dvs) H Q E) := .ofR (F.raw hb hd)
end
/-- the module's name x holds such a def -/
def Df (P : Program) (w : World) (K : PySem.W.Frag) (mg : Str → Option Value) (base : Heap) (k : Nat) (x : Str) (ks : List Str) (sp : Sp) : Prop := ∃ f, mg x = some (.ref f) ∧ PySem.W.keepIn K (.ref f) = true ∧ FnA P w K mg base k f ks sp
theorem passLA {X : Cx} : ∀ σ, PassesAt (L2.CX X.prog X.w) X σ ((fun _ => E0 : L2.St → XK) σ) := fun σ pins H s e s' I c => passL pins σ H s e s' I c
section
variable {X : Cx} {k : Nat} {f C : Addr} {ks : List Str} {sp : Sp} {E : L2.St → XK} {x m : Str} {p pos apos : Pos} {e o : Expr} {es : List Expr} {kws : List Keyword} {ta : TE} {t tk : TA}
theorem run_fnA {A : Around} {pins : List (Addr × Obj)} {σ : L2.St} {H : Hp} {s : Shared} {Q : VK} {us ws : List Value} {vs zs : List V} (F : FnA X.prog X.w X.K X.mg X.base k f ks sp) (hr : Room k A) (e0 : Env0 X.prog X.w X.K X.mg X.base A X.stack s H) (hx : PassesAt (L2.CX X.prog X.w) X σ (E σ)) (I : Inv X pins σ H s)
    (r1 : Vals vs us) (r2 : Vals zs ws) (l : zs.length = ks.length) (h : sp (vs ++ zs) H Q (E σ)) : codeAny (model X.prog X.w) A (.call (.ref f) ⟨us, ks.zip ws⟩) (fun r s' => match r with | .ok (.ret v) => EP X pins σ Q v s' | .ok _ => False | .error e => X.xe e s') s := by
  refine codeAny_mono (F A X.stack s H us ws vs zs Q (E σ) hr e0 r1 r2 (by rw [← r2.length]; exact l) h) fun r s' hq => ?_
  cases r with
  | error e => exact hx pins H s e s' I hq
  | ok fl =>
    cases fl with
    | ret u => exact I.after hq
    | next => exact False.elim hq
    | brk => exact False.elim hq
    | cont => exact False.elim hq
theorem run_dfA {pins : List (Addr × Obj)} {σ : L2.St} {H : Hp} {s : Shared} {Q : VK} {us ws : List Value} {vs zs : List V} (F : FnA X.prog X.w X.K X.mg X.base k f ks sp) (hr : Room k X.A) (hx : PassesAt (L2.CX X.prog X.w) X σ (E σ)) (I : Inv X pins σ H s)
    (r1 : Vals vs us) (r2 : Vals zs ws) (l : zs.length = ks.length) (h : sp (vs ++ zs) H Q (E σ)) : wpAny (model X.prog X.w) X.A (call (.ref f) us (ks.zip ws)) (EP X pins σ Q) X.xe s :=
  wpAny_call (run_fnA F hr I.env0 hx I r1 r2 l h)
/-- x(e, ..) -/
theorem pe_df (F : Df X.prog X.w X.K X.mg X.base k x [] sp) (hr : Room k X.A) (hg : Gl X x) (hx : ∀ σ, PassesAt (L2.CX X.prog X.w) X σ (E σ)) (ha : PA X (e :: es) t) (hdb : (x == ("__debug__" : Str)) = false := by decide)
    (he : starEach (e :: es) X.env = (false, eval e X.env) :: starEach es X.env := by rfl) (hpl : (backTo pos (starEach es X.env)).any (·.1) = false := by rfl) :
    PE X (.Call (.Name x p) (e :: es) [] pos) (tCallS sp E t) := by
  obtain ⟨f, hm, hk, F⟩ := F
  refine ⟨fun pins s σ H Q I h => ?_⟩
  refine wpAny_Call_Name_kw (ld_glob I hg hm ?_ hdb)
  refine PySem.W.callWith_K (h₀ := X.base) I.ok.mod.kin hk (thn (ha.run pos pins s σ H _ I h) fun us s1 ⟨vs, H1, I1, r, q⟩ => ⟨I1.kIn, ?_⟩) he hpl
  exact run_dfA (ws := []) (zs := []) F hr (hx σ) I1 r .nil rfl (by rw [List.append_nil]; exact q)
/-- a call with keywords: their values behind the positional ones -/
def tCallKw (m : Nat) (sp : Sp) (E : L2.St → XK) (t tk : TA) : TE := fun σ H Q => t σ H fun vs H1 => tk σ H1 fun zs H2 => zs.length = m ∧ sp (vs ++ zs) H2 Q (E σ)
theorem pe_dfK (F : Df X.prog X.w X.K X.mg X.base k x ks sp) (hr : Room k X.A) (hg : Gl X x) (hx : ∀ σ, PassesAt (L2.CX X.prog X.w) X σ (E σ)) (ha : PA X (e :: es) t) (hkw : PK X kws tk) (hall : (backToKw pos (keywordEach kws X.env)).all (·.1.isSome) = true := by rfl)
    (hks : (backToKw pos (keywordEach kws X.env)).filterMap (·.1) = ks := by rfl) (hdb : (x == ("__debug__" : Str)) = false := by decide) (he : starEach (e :: es) X.env = (false, eval e X.env) :: starEach es X.env := by rfl)
    (hpl : ((backTo pos (starEach (e :: es) X.env)).any (·.1) || (backToKw pos (keywordEach kws X.env)).any (·.1.isNone)) = false := by rfl) :
    PE X (.Call (.Name x p) (e :: es) kws pos) (tCallKw ks.length sp E t tk) := by
  obtain ⟨f, hm, hk, F⟩ := F
  refine ⟨fun pins s σ H Q I h => ?_⟩
  refine wpAny_Call_Name_kw (ld_glob I hg hm ?_ hdb)
  refine PySem.W.callWith_KW (h₀ := X.base) I.ok.mod.kin hk hall (thn (ha.run pos pins s σ H _ I h) fun us s1 ⟨vs, H1, I1, r, q⟩ => ?_) hpl he
  refine thn (hkw.run pos pins s1 σ H1 _ I1 q) fun ws s2 ⟨zs, H2, I2, rz, l2, q2⟩ => ⟨I2.kIn, ?_⟩
  rw [hks]
  exact run_dfA F hr (hx σ) I2 r rz l2 q2
/-! ### makings -/
def tMkA (C : Addr) (m : Nat) (sp : Sp) (E : L2.St → XK) (t tk : TA) : TE := fun σ H Q => t σ H fun vs H1 => tk σ H1 fun zs H2 => zs.length = m ∧ ∀ x dx, H2 x = none → H2 dx = none → dx ≠ x →
  sp (V.ref x :: vs ++ zs) (upd (upd H2 dx (.own x)) x (.ins C dx [])) (fun v H3 => v = .non ∧ Q (.ref x) H3) (E σ)
theorem run_mkA {pins : List (Addr × Obj)} {σ : L2.St} {H : Hp} {s : Shared} {Q : VK} {us ws : List Value} {vs zs : List V} (M : Mk X.K C f) (F : FnA X.prog X.w X.K X.mg X.base k f ks sp) (hr : Room (k + 1) X.A) (hx : PassesAt (L2.CX X.prog X.w) X σ (E σ)) (I : Inv X pins σ H s)
    (r1 : Vals vs us) (r2 : Vals zs ws) (l : zs.length = ks.length)
    (h : ∀ x dx, H x = none → H dx = none → dx ≠ x → sp (V.ref x :: vs ++ zs) (upd (upd H dx (.own x)) x (.ins C dx [])) (fun v H2 => v = .non ∧ Q (.ref x) H2) (E σ)) :
    wpAny (model X.prog X.w) X.A (call (.ref C) us (ks.zip ws)) (EP X pins σ Q) X.xe s := by
  have hq := h (s.heap.objs.size + 1) s.heap.objs.size (I.hok.fresh (Nat.le_succ _)) (I.hok.fresh (Nat.le_refl _)) (Nat.ne_of_lt (Nat.lt_succ_self _))
  have I2 := Inv.made (C := C) I
  have r3 : Vals (V.ref (s.heap.objs.size + 1) :: vs) (Value.ref (s.heap.objs.size + 1) :: us) := .cons rfl r1
  refine wpAny_call (make_map (f := f) I.kIn M.makes M.init (beq_iff_eq.mp M.fn) (codeAny_mono (F _ X.stack _ _ (Value.ref (s.heap.objs.size + 1) :: us) ws (V.ref (s.heap.objs.size + 1) :: vs) zs _ (E σ) (hr.make C us (ks.zip ws)) (I2.env0.make C us (ks.zip ws)) r3 r2 (by rw [← r2.length]; exact l) hq) fun r s' hq' => ?_))
  cases r with
  | error e => exact hx pins _ _ e s' I2 hq'
  | ok fl =>
    cases fl with
    | ret u =>
      obtain ⟨v, H', I3, rv, ev, q3⟩ := I2.after hq'
      subst ev
      exact ⟨rv, ⟨V.ref (s.heap.objs.size + 1), H', I3, rfl, q3⟩⟩
    | next => exact False.elim hq'
    | brk => exact False.elim hq'
    | cont => exact False.elim hq'
/-- a class at C with such an __init__ -/
def Mkr (P : Program) (w : World) (K : PySem.W.Frag) (mg : Str → Option Value) (base : Heap) (k : Nat) (C : Addr) (ks : List Str) (sp : Sp) : Prop := ∃ f, Mk K C f ∧ FnA P w K mg base k f ks sp
/-- C(e, ..) -/
theorem pe_mk (F : Mkr X.prog X.w X.K X.mg X.base k C [] sp) (hr : Room (k + 1) X.A) (hg : Gl X x) (hm : X.mg x = some (.ref C)) (hx : ∀ σ, PassesAt (L2.CX X.prog X.w) X σ (E σ)) (ha : PA X (e :: es) t) (hdb : (x == ("__debug__" : Str)) = false := by decide)
    (he : starEach (e :: es) X.env = (false, eval e X.env) :: starEach es X.env := by rfl) (hpl : (backTo pos (starEach es X.env)).any (·.1) = false := by rfl) :
    PE X (.Call (.Name x p) (e :: es) [] pos) (tMkA C 0 sp E t tNil) := by
  obtain ⟨f, M, F⟩ := F
  refine ⟨fun pins s σ H Q I h => ?_⟩
  refine wpAny_Call_Name_kw (ld_glob I hg hm ?_ hdb)
  refine PySem.W.callWith_K (h₀ := X.base) I.ok.mod.kin M.kp (thn (ha.run pos pins s σ H _ I h) fun us s1 ⟨vs, H1, I1, r, l, q⟩ => ⟨I1.kIn, ?_⟩) he hpl
  exact run_mkA (ws := []) (zs := []) M F hr (hx σ) I1 r .nil l q
/-- C(e, .., k = v, ..) -/
theorem pe_mkK (F : Mkr X.prog X.w X.K X.mg X.base k C ks sp) (hr : Room (k + 1) X.A) (hg : Gl X x) (hm : X.mg x = some (.ref C)) (hx : ∀ σ, PassesAt (L2.CX X.prog X.w) X σ (E σ)) (ha : PA X (e :: es) t) (hkw : PK X kws tk)
    (hall : (backToKw pos (keywordEach kws X.env)).all (·.1.isSome) = true := by rfl) (hks : (backToKw pos (keywordEach kws X.env)).filterMap (·.1) = ks := by rfl) (hdb : (x == ("__debug__" : Str)) = false := by decide)
    (he : starEach (e :: es) X.env = (false, eval e X.env) :: starEach es X.env := by rfl) (hpl : ((backTo pos (starEach (e :: es) X.env)).any (·.1) || (backToKw pos (keywordEach kws X.env)).any (·.1.isNone)) = false := by rfl) :
    PE X (.Call (.Name x p) (e :: es) kws pos) (tMkA C ks.length sp E t tk) := by
  obtain ⟨f, M, F⟩ := F
  refine ⟨fun pins s σ H Q I h => ?_⟩
  refine wpAny_Call_Name_kw (ld_glob I hg hm ?_ hdb)
  refine PySem.W.callWith_KW (h₀ := X.base) I.ok.mod.kin M.kp hall (thn (ha.run pos pins s σ H _ I h) fun us s1 ⟨vs, H1, I1, r, q⟩ => ?_) hpl he
  refine thn (hkw.run pos pins s1 σ H1 _ I1 q) fun ws s2 ⟨zs, H2, I2, rz, l2, q2⟩ => ⟨I2.kIn, ?_⟩
  rw [hks]
  exact run_mkA M F hr (hx σ) I2 r rz l2 q2
/-- c(e, ..), c a name of the def that holds the class -/
def tMkV (C : Addr) (i : Nat) (sp : Sp) (E : L2.St → XK) (t : TA) : TE := fun σ H Q => σ[i]? = some (some (.ref C)) ∧ tMkA C 0 sp E t tNil σ H Q
theorem pe_mkV {i : Nat} (F : Mkr X.prog X.w X.K X.mg X.base k C [] sp) (hr : Room (k + 1) X.A) (hN : X.N[i]? = some x) (hv : Vis X.env.scope x) (hx : ∀ σ, PassesAt (L2.CX X.prog X.w) X σ (E σ)) (ha : PA X (e :: es) t) (hdb : (x == ("__debug__" : Str)) = false := by decide) (hcd : (x == ("__classdict__" : Str)) = false := by decide)
    (he : starEach (e :: es) X.env = (false, eval e X.env) :: starEach es X.env := by rfl) (hpl : (backTo pos (starEach es X.env)).any (·.1) = false := by rfl) :
    PE X (.Call (.Name x p) (e :: es) [] pos) (tMkV C i sp E t) := by
  obtain ⟨f, M, F⟩ := F
  refine ⟨fun pins s σ H Q I h => ?_⟩
  obtain ⟨h1, h2⟩ := h
  have pv := (pe_var (X := X) (i := i) (pos := p) hN hv hdb hcd).run pins s σ H (fun v H1 => v = .ref C ∧ H1 = H) I ⟨_, h1, rfl, rfl⟩
  refine wpAny_Call_Name_kw (thn pv fun u s1 ⟨v, H1, I1, rv, ev, eH⟩ => ?_)
  subst ev
  subst eH
  cases rv
  refine PySem.W.callWith_K (h₀ := X.base) I1.ok.mod.kin M.kp (thn (ha.run pos pins s1 σ H1 _ I1 h2) fun us s2 ⟨vs, H2, I2, r, l, q⟩ => ⟨I2.kIn, ?_⟩) he hpl
  exact run_mkA (ws := []) (zs := []) M F hr (hx σ) I2 r .nil l q
end
end Pl

end

section
set_option Elab.async false
set_option linter.all false
set_option maxRecDepth 100000
set_option maxHeartbeats 2000000
/-! PlH: methods of instances with slots and with a dict, properties read and stored, class methods, by such promises. -/
namespace Pl
open PySem PySem.Spec PyProof.Rows L2

/-- the class at C (slots) has the method m, which keeps sp -/
def MtS (P : Program) (w : World) (K : PySem.W.Frag) (mg : Str → Option Value) (base : Heap) (k : Nat) (C : Addr) (m : Str) (sp : Sp) : Prop := SlX.SCls K C ∧ ∃ g, Meth K C m g ∧ FnA P w K mg base k g [] sp
/-- .. its instances have a dict -/
def MtD (P : Program) (w : World) (K : PySem.W.Frag) (mg : Str → Option Value) (base : Heap) (k : Nat) (C : Addr) (m : Str) (sp : Sp) : Prop := Cls K C ∧ ∃ g, Meth K C m g ∧ FnA P w K mg base k g [] sp
/-- a property of such a class -/
def PrD (P : Program) (w : World) (K : PySem.W.Frag) (mg : Str → Option Value) (base : Heap) (k : Nat) (C : Addr) (m : Str) (sp : Sp) : Prop := Cls K C ∧ ∃ p g, PropOf K C m p g ∧ FnA P w K mg base k g [] sp
def PrS (P : Program) (w : World) (K : PySem.W.Frag) (mg : Str → Option Value) (base : Heap) (k : Nat) (C : Addr) (m : Str) (sp : Sp) : Prop := SlX.SCls K C ∧ ∃ p g, PropOf K C m p g ∧ FnA P w K mg base k g [] sp
/-- its setter -/
structure SetOf (K : PySem.W.Frag) (C : Addr) (f : Str) (p g : Addr) : Prop where
  tk : PySem.W.takerIn K C f = some (some (.ref p))
  ty : PySem.W.typeIn K (.ref p) = some (.type "property")
  rc : ∃ a rest, PySem.W.recIn K p "property" = some (a :: .ref g :: rest)
def SetD (P : Program) (w : World) (K : PySem.W.Frag) (mg : Str → Option Value) (base : Heap) (k : Nat) (C : Addr) (m : Str) (sp : Sp) : Prop := Cls K C ∧ ∃ p g, SetOf K C m p g ∧ FnA P w K mg base k g [] sp

def tMtS (C : Addr) (sp : Sp) (E : L2.St → XK) (ta : TE) (t : TA) : TE := fun σ H Q => ta σ H fun x H1 => ∃ a dx vs, x = .ref a ∧ SlX.Slt H1 a C dx vs ∧ t σ H1 fun ws H2 => sp (x :: ws) H2 Q (E σ)
def tMtD (C : Addr) (m : Str) (sp : Sp) (E : L2.St → XK) (ta : TE) (t : TA) : TE := fun σ H Q => ta σ H fun x H1 => ∃ a dx fs, x = .ref a ∧ H1 a = some (.ins C dx fs) ∧ fs.lookup m = none ∧ t σ H1 fun ws H2 => sp (x :: ws) H2 Q (E σ)
def tPrD (C : Addr) (sp : Sp) (ta : TE) : TE := fun σ H Q => ta σ H fun x H1 => ∃ a dx fs, x = .ref a ∧ H1 a = some (.ins C dx fs) ∧ sp [.ref a] H1 Q E0
def tPrS (C : Addr) (sp : Sp) (ta : TE) : TE := fun σ H Q => ta σ H fun x H1 => ∃ a dx vs, x = .ref a ∧ SlX.Slt H1 a C dx vs ∧ sp [.ref a] H1 Q E0
def sSetD (C : Addr) (sp : Sp) (E : L2.St → XK) (ta tv : TE) : TS := fun D σ H => tv σ H fun y H1 => ta σ H1 fun x H2 => ∃ a dx fs, x = .ref a ∧ H2 a = some (.ins C dx fs) ∧ sp [.ref a, y] H2 (fun _ H3 => D.nx σ H3) (E σ)
section
variable {X : Cx} {k : Nat} {C : Addr} {sp : Sp} {E : L2.St → XK} {f m : Str} {pos pos' apos : Pos} {e o value : Expr} {es : List Expr} {ta tv : TE} {t : TA} {pl : Sem Bool}
theorem pe_mtS (he : PE X o ta) (M : MtS X.prog X.w X.K X.mg X.base k C m sp) (hr : Room k X.A) (hx : ∀ σ, PassesAt (L2.CX X.prog X.w) X σ (E σ)) (ha : PA X (e :: es) t)
    (hst : starEach (e :: es) X.env = (false, eval e X.env) :: starEach es X.env := by rfl) (hpl : (backTo pos (starEach es X.env)).any (·.1) = false := by rfl)
    (ht : eval (.Call (.Attribute o m apos) (e :: es) [] pos) X.env = (do
      let ov ← eval o X.env
      standAt apos.atName
      let (f, first) ← holding [ov] (getMethod ov m pl)
      callWith pos f first (backTo pos (starEach (e :: es) X.env)) (backToKw pos (keywordEach [] X.env))) := by rfl) :
    PE X (.Call (.Attribute o m apos) (e :: es) [] pos) (tMtS C sp E ta t) := by
  obtain ⟨c, g, hm, F⟩ := M
  refine ⟨fun pins s σ H Q I h => ?_⟩
  refine PySem.W.methodCall_KW (pl := pl) (thn (he.run pins s σ H _ I h) fun u s1 ⟨x, H1, I1, rx, a, dx, vs, ex, hsl, q⟩ => ?_) ht
  subst ex
  obtain rfl : u = Value.ref a := rx
  refine SlX.getmethsl_ok I1 hsl c hm ?_
  refine PySem.W.callWith_K (first := [.ref a]) (h₀ := X.base) I.ok.mod.kin hm.kp (thn (ha.run pos pins s1 σ H1 _ I1 q) fun us s2 ⟨ws, H2, I2, r, q2⟩ => ⟨I2.kIn, ?_⟩) hst hpl
  exact run_dfA (us := .ref a :: us) (vs := .ref a :: ws) (ws := []) (zs := []) F hr (hx σ) I2 (.cons rfl r) .nil rfl (by rw [List.append_nil]; exact q2)
theorem pe_mtS0 (he : PE X o ta) (M : MtS X.prog X.w X.K X.mg X.base k C m sp) (hr : Room k X.A) (hx : ∀ σ, PassesAt (L2.CX X.prog X.w) X σ (E σ))
    (ht : eval (.Call (.Attribute o m apos) [] [] pos) X.env = (do
      let ov ← eval o X.env
      standAt apos.atName
      let (f, first) ← holding [ov] (getMethod ov m pl)
      callWith pos f first (backTo pos (starEach [] X.env)) (backToKw pos (keywordEach [] X.env))) := by rfl) :
    PE X (.Call (.Attribute o m apos) [] [] pos) (tMtS C sp E ta tNil) := by
  obtain ⟨c, g, hm, F⟩ := M
  refine ⟨fun pins s σ H Q I h => ?_⟩
  refine PySem.W.methodCall_KW (pl := pl) (thn (he.run pins s σ H _ I h) fun u s1 ⟨x, H1, I1, rx, a, dx, vs, ex, hsl, q⟩ => ?_) ht
  subst ex
  obtain rfl : u = Value.ref a := rx
  refine SlX.getmethsl_ok I1 hsl c hm ?_
  exact PySem.W.callWith_K0 (first := [.ref a]) I1.kIn hm.kp (run_dfA (us := [.ref a]) (vs := [.ref a]) (ws := []) (zs := []) F hr (hx σ) I1 (.cons rfl .nil) .nil rfl q)
theorem pe_mtD (he : PE X o ta) (M : MtD X.prog X.w X.K X.mg X.base k C m sp) (hr : Room k X.A) (hx : ∀ σ, PassesAt (L2.CX X.prog X.w) X σ (E σ)) (ha : PA X (e :: es) t)
    (hst : starEach (e :: es) X.env = (false, eval e X.env) :: starEach es X.env := by rfl) (hpl : (backTo pos (starEach es X.env)).any (·.1) = false := by rfl)
    (ht : eval (.Call (.Attribute o m apos) (e :: es) [] pos) X.env = (do
      let ov ← eval o X.env
      standAt apos.atName
      let (f, first) ← holding [ov] (getMethod ov m pl)
      callWith pos f first (backTo pos (starEach (e :: es) X.env)) (backToKw pos (keywordEach [] X.env))) := by rfl) :
    PE X (.Call (.Attribute o m apos) (e :: es) [] pos) (tMtD C m sp E ta t) := by
  obtain ⟨c, g, hm, F⟩ := M
  refine ⟨fun pins s σ H Q I h => ?_⟩
  refine PySem.W.methodCall_KW (pl := pl) (thn (he.run pins s σ H _ I h) fun u s1 ⟨x, H1, I1, rx, a, dx, fs, ex, ea, l, q⟩ => ?_) ht
  subst ex
  obtain rfl : u = Value.ref a := rx
  refine getmeth_ok I1 ea c hm l ?_
  refine PySem.W.callWith_K (first := [.ref a]) (h₀ := X.base) I.ok.mod.kin hm.kp (thn (ha.run pos pins s1 σ H1 _ I1 q) fun us s2 ⟨ws, H2, I2, r, q2⟩ => ⟨I2.kIn, ?_⟩) hst hpl
  exact run_dfA (us := .ref a :: us) (vs := .ref a :: ws) (ws := []) (zs := []) F hr (hx σ) I2 (.cons rfl r) .nil rfl (by rw [List.append_nil]; exact q2)
theorem pe_mtD0 (he : PE X o ta) (M : MtD X.prog X.w X.K X.mg X.base k C m sp) (hr : Room k X.A) (hx : ∀ σ, PassesAt (L2.CX X.prog X.w) X σ (E σ))
    (ht : eval (.Call (.Attribute o m apos) [] [] pos) X.env = (do
      let ov ← eval o X.env
      standAt apos.atName
      let (f, first) ← holding [ov] (getMethod ov m pl)
      callWith pos f first (backTo pos (starEach [] X.env)) (backToKw pos (keywordEach [] X.env))) := by rfl) :
    PE X (.Call (.Attribute o m apos) [] [] pos) (tMtD C m sp E ta tNil) := by
  obtain ⟨c, g, hm, F⟩ := M
  refine ⟨fun pins s σ H Q I h => ?_⟩
  refine PySem.W.methodCall_KW (pl := pl) (thn (he.run pins s σ H _ I h) fun u s1 ⟨x, H1, I1, rx, a, dx, fs, ex, ea, l, q⟩ => ?_) ht
  subst ex
  obtain rfl : u = Value.ref a := rx
  refine getmeth_ok I1 ea c hm l ?_
  exact PySem.W.callWith_K0 (first := [.ref a]) I1.kIn hm.kp (run_dfA (us := [.ref a]) (vs := [.ref a]) (ws := []) (zs := []) F hr (hx σ) I1 (.cons rfl .nil) .nil rfl q)
/-- e.f, a property that lets nothing out -/
theorem pe_prD (he : PE X e ta) (M : PrD X.prog X.w X.K X.mg X.base k C f sp) (hr : Room (k + 1) X.A) (hab : attributeBase e f X.env (eval e X.env) = eval e X.env := by rfl) : PE X (.Attribute e f pos) (tPrD C sp ta) := by
  obtain ⟨c, p, g, hp, F⟩ := M
  refine ⟨fun pins s σ H Q I h => ?_⟩
  refine attr_of hab (thn (he.run pins s σ H _ I h) fun u s1 ⟨x, H1, I1, rx, a, dx, fs, ex, ea, q⟩ => ?_)
  subst ex
  obtain rfl : u = Value.ref a := rx
  obtain ⟨mA, O, _, _, _, _⟩ := ins_get I1.hok ea
  obtain ⟨od, J, _⟩ := O.look
  obtain ⟨rest, hrec⟩ := hp.rec_
  have I2 := I1.tok (s1.toks + 1)
  have hc : (PySem.W.clsIn X.K C).isSome = true := by
    obtain ⟨cd, hc, _⟩ := PySem.W.any_some c.hd
    rw [hc]
    rfl
  refine PySem.W.get_bind I1.kIn J (PySem.W.plainGet_of (c.get f)).1 (PySem.W.findObj_data hc hp.at_ hp.get hp.tak) (PySem.W.plainGet_of (c.get f)).2 (wpAny_call (PySem.W.prop_get (s := { s1 with toks := s1.toks + 1 }) I1.kIn hrec ?_))
  refine codeAny_mono (F.r X.A.in1 X.stack { s1 with toks := s1.toks + 1 } H1 [.ref a] [.ref a] Q E0 hr.in1 I2.env0.in1 (.cons rfl .nil) q) fun r s' hq => ?_
  cases r with
  | error er => exact False.elim (cx0 hq)
  | ok fl =>
    cases fl with
    | ret u =>
      obtain ⟨v, H', I3, rv, q3⟩ := I2.after hq
      show wpAny _ _ (handedOut u) _ _ _
      rw [PySem.W.handedOut_of (handed_of rv)]
      exact wpAny_pure ⟨v, H', I3, rv, q3⟩
    | next => exact False.elim hq
    | brk => exact False.elim hq
    | cont => exact False.elim hq
theorem pe_prS (he : PE X e ta) (M : PrS X.prog X.w X.K X.mg X.base k C f sp) (hr : Room (k + 1) X.A) (hab : attributeBase e f X.env (eval e X.env) = eval e X.env := by rfl) : PE X (.Attribute e f pos) (tPrS C sp ta) := by
  obtain ⟨c, p, g, hp, F⟩ := M
  refine ⟨fun pins s σ H Q I h => (SlX.pe_propSl he c hp.at_ hp.get hp.tak hp.rec_ F.r hr (fun _ _ _ _ z => cx0 z) hab).run pins s σ H Q I h⟩
/-- o.f = e, a property with a setter -/
theorem ps_setD (ha : PE X o ta) (hv : PE X value tv) (M : SetD X.prog X.w X.K X.mg X.base k C f sp) (hr : Room (k + 2) X.A) (hx : ∀ σ, PassesAt (L2.CX X.prog X.w) X σ (E σ)) (hs : swapsWith value (some (.Attribute o f pos')) pos.line X.env = pure false := by rfl) :
    PS X (.Assign [.Attribute o f pos'] value pos) (sSetD C sp E ta tv) := by
  obtain ⟨c, p, g, hp, F⟩ := M
  refine ⟨fun pins s σ H D I h => ?_⟩
  refine plainObj_wpAny_Assign_Attribute (thn (hv.run pins s σ H _ I h) fun u s1 ⟨y, H1, I1, ry, q⟩ => thn (ha.run pins s1 σ H1 _ I1 q) fun ov s2 ⟨x, H2, I2, rx, a, dx, fs, ex, ea, q2⟩ => ?_) hs
  subst ex
  obtain rfl : ov = Value.ref a := rx
  obtain ⟨mA, O, _, _, _, _⟩ := ins_get I2.hok ea
  obtain ⟨od, J, _⟩ := O.look
  obtain ⟨m, fr⟩ := I2.fr
  obtain ⟨a0, rest, hrec⟩ := hp.rc
  refine PySem.W.set_prop fr I2.ok.mod.kin J c.sa c.po hp.tk hp.ty hrec ?_
  have I3 := I2.tok (s2.toks + 1)
  refine codeAny_mono (F X.A.in1.in1 X.stack { s2 with toks := s2.toks + 1 } H2 [.ref a, u] [] [.ref a, y] [] _ (E σ) (Room.in1 (Room.in1 hr)) I3.env0.in1.in1 (.cons rfl (.cons ry .nil)) .nil rfl (by rw [List.append_nil]; exact q2)) fun r s' hq => ?_
  cases r with
  | error er => exact hx σ pins H2 _ er s' I3 hq
  | ok fl =>
    cases fl with
    | ret u =>
      obtain ⟨v, H', I4, rv, q3⟩ := I3.after hq
      exact ⟨σ, H', I4, q3⟩
    | next => exact False.elim hq
    | brk => exact False.elim hq
    | cont => exact False.elim hq
/-- e.m(e, ..), e the class at C, m a classmethod that lets nothing out -/
theorem pe_cm {mc : Value} {p g : Addr} (he : PE X o ta) (r : ClX.CRead X.K C mc) (c : ClX.CMet X.K C mc m p g) (F : FnA X.prog X.w X.K X.mg X.base k g [] sp) (hr : Room k X.A) (ha : PA X (e :: es) t)
    (hst : starEach (e :: es) X.env = (false, eval e X.env) :: starEach es X.env := by rfl) (hpl : (backTo pos (starEach es X.env)).any (·.1) = false := by rfl)
    (ht : eval (.Call (.Attribute o m apos) (e :: es) [] pos) X.env = (do
      let ov ← eval o X.env
      standAt apos.atName
      let (f, first) ← holding [ov] (getMethod ov m pl)
      callWith pos f first (backTo pos (starEach (e :: es) X.env)) (backToKw pos (keywordEach [] X.env))) := by rfl) :
    PE X (.Call (.Attribute o m apos) (e :: es) [] pos) (ClX.tCMeth C sp E0 ta t) := ClX.pe_cmeth he r c F.r hr passL ha hst hpl ht
end
end Pl

end

section
set_option Elab.async false
set_option linter.all false
set_option maxRecDepth 100000
set_option maxHeartbeats 2000000
/-! PlI: enumerate over a list or a tuple. -/
namespace Pl
open PySem PySem.Spec PyProof.Rows L2

set_option maxHeartbeats 4000000 in
theorem meets_enum1 {v : Value} {o : Obj} {H : Heap → Prop} (B : Begins v o H) :
    Meets (Builtin.«enumerate.__new__» ⟨[.type "enumerate", v], []⟩) (fun _ R s => H s.heap ∧
      R (.ok (.ret (.ref (s.heap.push o).objs.size))) { s with heap := (s.heap.push o).push { cls := .type "enumerate", data := .fields #[.none, .bool false, .ref s.heap.objs.size, rawInt 0, .none, .none] } }) :=
  .of_wp fun prog w A R s h => by
    obtain ⟨hp, g, d, tk, os⟩ := s; obtain ⟨h1, h⟩ := h
    have hsub := sub_enumerate
    have q1 : ∀ {A' : Around} {E : Value → Shared → Prop} {Q : Value → Shared → Prop}, Q (.ref hp.objs.size) ⟨hp.push o, g, d, tk, os⟩ → wpAny (model prog w) A' (pyIter v) Q E ⟨hp, g, d, tk, os⟩ :=
      fun q => B.iter prog w _ _ ⟨hp, g, d, tk, os⟩ _ h1 q
    wp_walk using q1
    refine wpAny_stack_any fun st => wpAny_pure ?_
    split
    · rename_i c _ _ _ _ _
      cases (c == Value.type "enumerate")
      · wp_walk using q1
        exact ⟨_, rfl, h⟩
      · wp_walk using q1
        exact ⟨_, rfl, h⟩
    · wp_walk using q1
      exact ⟨_, rfl, h⟩
section
variable {prog : Program} {w : World} {A : Around} {E : Value → Shared → Prop} {s : Shared}
theorem enum1_begins {v : Value} {o : Obj} {H : Heap → Prop} {Q : Value → Shared → Prop} (B : Begins v o H) (h1 : H s.heap)
    (h : ∀ h', IsEnum h' (s.heap.objs.size + 1) s.heap.objs.size 0 .none → h'.get? s.heap.objs.size = some o → h'.objs.size = s.heap.objs.size + 2 →
      (∀ b o, s.heap.get? b = some o → h'.get? b = some o) → Q (.ref (s.heap.objs.size + 1)) { s with heap := h' }) :
    wpAny (model prog w) A (call (.type "enumerate") [v]) Q E s := by
  refine callType_new F.called_enumerate (by decide) (F.typeCall_enumerate_1 _) (F.newCall_enumerate_1 _) (fun obj => F.args_object_init_2 obj _) F.entry_enumerate_new
    (meets_enum1 B) ⟨h1, ?_⟩
  have hz : (s.heap.push o).objs.size = s.heap.objs.size + 1 := Heap.size_push ..
  show _ ∧ _
  rw [hz]
  have he : IsEnum ((s.heap.push o).push { cls := .type "enumerate", data := .fields #[.none, .bool false, .ref s.heap.objs.size, rawInt 0, .none, .none] }) (s.heap.objs.size + 1) s.heap.objs.size 0 .none := by
    have := Heap.get?_push_size (s.heap.push o) (o := { cls := .type "enumerate", data := .fields #[.none, .bool false, .ref s.heap.objs.size, rawInt 0, .none, .none] }) rfl
    rw [hz] at this; exact this
  exact ⟨⟨_, he, rfl⟩, h _ he (Heap.get?_push_of_some _ (Heap.get?_push_size _ B.free)) (by rw [Heap.size_push, hz]) fun b o x => Heap.get?_push_of_some _ (Heap.get?_push_of_some _ x)⟩
end
/-- the tuple at a, each item in a new pair -/
def IteT (K : PySem.W.Frag) (a : Addr) : It :=
  ⟨fun i H => ∃ (xs : List V) (x : V), SqT K H a xs ∧ xs[i]? = some x, fun i H v H' => ∃ T x, v = .ref T ∧ H T = none ∧ H' = upd H T (.tup [.int (i : Nat), x]) ∧ ∀ xs, SqT K H a xs → xs[i]? = some x, fun i H => ∃ xs : List V, SqT K H a xs ∧ xs.length = i⟩
theorem turn_enumT {P : Program} {w : World} {K : PySem.W.Frag} {elts : List Expr} {kk : Nat} {tpos : Pos} (a e it : Addr) :
    Turn P w K (.Tuple elts kk tpos) (IteT K a) [e, it] e (fun i h => (∃ old, IsEnum h e it ((i : Nat) : Int) old) ∧ h.IsTupleIter it a i ∧ e ≠ it ∧ a ≠ it ∧ a ≠ e) where
  mem := by simp
  obj := fun i h st b hb => by
    obtain ⟨⟨old, he⟩, ⟨o, ho, hc, hd⟩, _⟩ := st
    have e' : b = e ∨ b = it := by simpa using hb
    rcases e' with z | z
    · rw [z]; exact ⟨_, he, fun v q => nomatch q⟩
    · rw [z]; exact ⟨o, ho, fun v q => by rw [hd] at q; cases q⟩
  keep := fun i h h' st k => let ⟨⟨old, he⟩, hi, hne⟩ := st; ⟨⟨old, k e (by simp) _ he⟩, hi.at fun o q => k it (by simp) o q, hne⟩
  item := by
    intro X hP hw hK hc i pins s σ H E I hf st hg
    subst hP hw hK
    obtain ⟨⟨old, he⟩, hit, hne, hai, hae⟩ := st
    obtain ⟨xs, x, hq, hx⟩ := hg
    obtain ⟨its, rv, p, hz⟩ := I.tuple hq
    obtain ⟨u, hu, ru⟩ := rv.get hx
    have hel : e < s.heap.objs.size := Heap.lt_size he
    have hil : it < s.heap.objs.size := by obtain ⟨_, q, _⟩ := hit; exact Heap.lt_size q
    have hlt : i < its.toArray.size := by
      obtain ⟨z, _⟩ := List.getElem?_eq_some_iff.mp hu
      simpa using z
    refine wpAny_pyNext_enum_itemC (Draws.tuple (A := X.A.in1) (I.ok.hd hc) it a hai its.toArray) he ⟨hit, show s.heap.IsTuple a its.toArray from p⟩ hlt hne (by simp [hne, Ne.symm hae]) fun y h' tk hP ho hst' hT hsz hk => ?_
    have ey : y = u := by
      have z : its.toArray[i]? = some u := by simpa using hu
      exact Option.some.inj (hP.symm.trans z)
    subst ey
    refine ⟨_, rfl, wpAny_letOwnedTupleGo_enum (s := { s with heap := h', toks := tk + 1 }) ho fun h'' he' sb => ?_⟩
    have hT2 : h''.get? s.heap.objs.size = some { cls := .type "tuple", data := .seq #[.int i tk, y] } := (sb.2 _ (Nat.ne_of_gt hel)).trans hT
    have new : ObjOk X.prog X.w (upd H s.heap.objs.size (.tup [.int (i : Nat), x])) h'' s.heap.objs.size (.tup [.int (i : Nat), x]) :=
      ⟨by show 2 ≤ sizeLine; decide, [.int i tk, y], .cons ⟨_, rfl⟩ (.cons ru .nil), ⟨_, hT2, rfl, _, rfl⟩⟩
    have I1 : Inv X pins σ (upd H s.heap.objs.size (.tup [.int (i : Nat), x])) { s with heap := h'', toks := tk + 1 } :=
      I.turnedNew (ch := [e, it]) (fun b ob hb q => (sb.2 b (fun z => hb (by simp [z]))).trans (hk b ob (fun z => hb (by simp [z])) (fun z => hb (by simp [z])) q)) hf (Nat.le_refl _) new
    refine ⟨.ref s.heap.objs.size, _, I1, rfl, ⟨_, x, rfl, I.hok.fresh (Nat.le_refl _), rfl, fun ys hy => by rw [I.tuple_inj hy hq]; exact hx⟩, ⟨⟨y, ?_⟩, hst'.1.at fun o q => (sb.2 it (Ne.symm hne)).trans q, hne, hai, hae⟩, fun b hb => ?_⟩
    · have e1 : ((i + 1 : Nat) : Int) = (i : Int) + 1 := by omega
      rw [e1]; exact he'
    · have hb' : b < s.heap.objs.size := by
        have e' : b = e ∨ b = it := by simpa using hb
        rcases e' with z | z
        · rw [z]; exact hel
        · rw [z]; exact hil
      rw [upd_ne (Nat.ne_of_lt hb')]
      exact (hf b hb).1
  done := by
    intro X hP hw hK hc i pins s σ H E I hf st hg
    subst hP hw hK
    obtain ⟨⟨old, he⟩, hit, hne, hai, hae⟩ := st
    obtain ⟨xs, hq, hx⟩ := hg
    obtain ⟨its, rv, p, hz⟩ := I.tuple hq
    obtain ⟨f0, f1, f2, f3, f4, f5⟩ := hf it (by simp)
    have hl := rv.length
    have hn : its.toArray.size = i := by simp; omega
    refine wpAny_pyNext_enum_endD (Draws.tuple (A := X.A.in1) (I.ok.hd hc) it a hai its.toArray) he ⟨by rw [hn]; exact hit, show s.heap.IsTuple a its.toArray from p⟩ fun h' eb => ⟨rfl, I.turned (t' := s.toks) (fun b o hb q => eb b o hb q) f0 f1 f3 f4 f5⟩
  self := fun A i s Q E st h => let ⟨⟨_, he⟩, _⟩ := st; wpAny_pyIter_enum he h
/-- what is walked: a list (L), a tuple -/
def EnS (K : PySem.W.Frag) (L : Bool) (a : Addr) (xs : List V) (H : Hp) : Prop := match L with
  | true => SqL K H a xs
  | false => SqT K H a xs
def IteA (K : PySem.W.Frag) (L : Bool) (a : Addr) : It := match L with
  | true => Ite K a
  | false => IteT K a
theorem enS_ex {K : PySem.W.Frag} {L : Bool} {a : Addr} {xs : List V} {H H' : Hp} (e : Evl.Ex H H') (h : EnS K L a xs H) : EnS K L a xs H' := by
  cases L with
  | true => exact Evl.ex_l e h
  | false => exact Evl.ex_t e h
/-- enumerate(e), e a list or a tuple -/
def iEnA (K : PySem.W.Frag) (ta : TA) : TI := fun σ H R => ta σ H fun vs H1 => ∃ L a xs, vs = [.ref a] ∧ EnS K L a xs H1 ∧ R (IteA K L a) H1
theorem pi_enA {X : Cx} {e : Expr} {ta : TA} {p pos tpos : Pos} {elts : List Expr} {kk : Nat} (hg : Gl X "enumerate") (hm : X.mg "enumerate" = none) (ha : PA X [e] ta) (hs : starEach [e] X.env = [(false, eval e X.env)] := by rfl) :
    PI X (.Tuple elts kk tpos) (.Call (.Name "enumerate" p) [e] [] pos) (iEnA X.K ta) := by
  refine ⟨fun pins s σ H R I h => ?_⟩
  refine Call_ (ld_blt I hg hm boot_enumerate (PyProof.Rows.callWith_type1 (thn (ha.run pos pins s σ H _ I h) fun us s1 ⟨vs, H1, I1, r1, q1⟩ => ?_) hs rfl))
  obtain ⟨L, a, xs, ex, hq, q⟩ := q1
  subst ex
  cases r1 with
  | cons r rr =>
    cases rr
    cases r
    have hb : ∀ b ∈ [s1.heap.objs.size + 1, s1.heap.objs.size], FpOk X pins H1 b := fun b hb => by
      have e' : b = s1.heap.objs.size + 1 ∨ b = s1.heap.objs.size := by simpa using hb
      have hle : s1.heap.objs.size ≤ b := by
        rcases e' with z | z
        · rw [z]; exact Nat.le_succ _
        · rw [z]; exact Nat.le_refl _
      exact I1.fpOk hle (I1.hok.fresh hle)
    cases L with
    | true =>
      obtain ⟨its, rv, p', hz⟩ := I1.list hq
      refine call_enumerate_list p'.isList fun h' he hit hsz hk => wpAny_pyIter_enum he ?_
      have I2 : Inv X pins σ H1 { s1 with heap := h' } := I1.kept (t' := s1.toks) hk
      exact ⟨s1.heap.objs.size + 1, [s1.heap.objs.size + 1, s1.heap.objs.size], _, _, H1, rfl, I2, turn_enum a (s1.heap.objs.size + 1) s1.heap.objs.size, ⟨⟨.none, he⟩, hit, Nat.succ_ne_self _⟩, hb, q⟩
    | false =>
      obtain ⟨its, rv, p', hz⟩ := I1.tuple hq
      have hT : s1.heap.IsTuple a its.toArray := p'
      have hlt : a < s1.heap.objs.size := by obtain ⟨o, z, _⟩ := hT; exact Heap.lt_size z
      refine enum1_begins (begins_tuple a its.toArray) hT fun h' he hit hsz hk => wpAny_pyIter_enum he ?_
      have I2 : Inv X pins σ H1 { s1 with heap := h' } := I1.kept (t' := s1.toks) hk
      exact ⟨s1.heap.objs.size + 1, [s1.heap.objs.size + 1, s1.heap.objs.size], _, _, H1, rfl, I2, turn_enumT a (s1.heap.objs.size + 1) s1.heap.objs.size, ⟨⟨.none, he⟩, ⟨_, hit, rfl, rfl⟩, Nat.succ_ne_self _, Nat.ne_of_lt hlt, Nat.ne_of_lt (Nat.lt_succ_of_lt hlt)⟩, hb, q⟩
theorem for_enA {K : PySem.W.Frag} {L : Bool} {a : Addr} {xs : List V} {g : TG} {tb : TS} {D : Ends} {σ : L2.St} {H : Hp} (Pv : Nat → L2.St → Hp → Prop) (h0 : Pv 0 σ H) (hl : ∀ i σ H, i ≤ xs.length → Pv i σ H → EnS K L a xs H)
    (hs : ∀ i x σ H, xs[i]? = some x → Pv i σ H → ∀ T, H T = none → g (.ref T) σ (upd H T (.tup [.int (i : Nat), x])) fun σ2 H2 => tb { D with nx := Pv (i + 1), ct := Pv (i + 1), bk := D.nx } σ2 H2) (hd : ∀ σ H, Pv xs.length σ H → D.nx σ H) :
    ∃ W : Nat → Nat → L2.St → Hp → Prop, (∃ m, W 0 m σ H) ∧ ∀ i m σ H, W i m σ H →
      ((IteA K L a).stop i H ∧ D.nx σ H) ∨ ((IteA K L a).go i H ∧ ∃ N : L2.St → Hp → Prop, (∀ σ' H', N σ' H' → ∃ m', m' < m ∧ W (i + 1) m' σ' H') ∧ ∀ x H', (IteA K L a).yld i H x H' → g x σ H' fun σ2 H2 => tb { D with nx := N, ct := N, bk := D.nx } σ2 H2) := by
  refine ⟨fun i m σ H => m = xs.length - i ∧ i ≤ xs.length ∧ Pv i σ H, ⟨xs.length, by simp, Nat.zero_le _, h0⟩, ?_⟩
  rintro i m σ H ⟨rfl, hi, p⟩
  have q := hl i σ H hi p
  by_cases hlt : i < xs.length
  · cases L
    all_goals
      refine .inr ⟨⟨xs, xs[i], q, by simp [hlt]⟩, Pv (i + 1), fun σ' H' p' => ⟨xs.length - (i + 1), by omega, rfl, hlt, p'⟩, fun x H' y => ?_⟩
      obtain ⟨T, z, ev, hT, eH, y⟩ := y
      subst ev eH
      exact hs i z σ H (y xs q) p T hT
  · have e : i = xs.length := by omega
    subst e
    cases L
    · exact .inl ⟨⟨xs, q, rfl⟩, hd σ H p⟩
    · exact .inl ⟨⟨xs, q, Nat.le_refl _⟩, hd σ H p⟩
end Pl

end

section
set_option Elab.async false
set_option linter.all false
set_option maxRecDepth 100000
set_option maxHeartbeats 2000000
/-! PlJ: a Hook of one's own: which objects of the heap behind the top are looked at is said by paths; the checks are any Bools. -/
namespace Pl
open PySem PySem.Spec PyProof.Rows L2

abbrev Fg := PySem.W.Frag
/-! ### where things stand -/
def recAt (K : Fg) (T : String) (i : Nat) (p : Addr) : Addr := match PySem.W.recIn K p T with
  | some vs => (match vs[i]? with
    | some (.ref a) => a
    | _ => 0)
  | none => 0
inductive At where
  | g (x : Str)
  | m (C x : Str)
  | pg (C x : Str)
  | ps (C x : Str)
  | cm (C x : Str)
def At.ad (K : Fg) : At → Addr
  | .g x => He.ga K x
  | .m C x => He.ma K (He.ga K C) x
  | .pg C x => recAt K "property" 0 (He.ma K (He.ga K C) x)
  | .ps C x => recAt K "property" 1 (He.ma K (He.ga K C) x)
  | .cm C x => recAt K "classmethod" 0 (He.ma K (He.ga K C) x)
def nsOf (K : Fg) (C : Addr) : Addr := match K.lookup C with
  | some ⟨_, _, .cls cd, _⟩ => cd.ns
  | _ => 0
def fnRefs (K : Fg) (f : Addr) : List Addr := match K.lookup f with
  | some ⟨_, _, .func fd, _⟩ => He.refV fd.code ++ (He.refV fd.defaults ++ fd.closure.map (·.2))
  | _ => []
def seqRefs (K : Fg) (f : Addr) : List Addr := match K.lookup f with
  | some ⟨_, _, .func fd, _⟩ => (He.refV fd.defaults).flatMap fun t => match K.lookup t with
    | some ⟨_, _, .seq its _, _⟩ => its.toList.flatMap He.refV
    | _ => []
  | _ => []
/-- the part of the heap that is looked at: the module's names N, the classes C (their own dicts), the members M of classes, the defs D -/
def seeG (N C : List Str) (M : List (Str × Str)) (D : List At) (g : Addr → Option Obj) : Fg :=
  let a1 := mainGlobals :: cStatics :: N.map (He.ga (He.frG g [mainGlobals]))
  let a2 := a1 ++ C.map fun x => nsOf (He.frG g a1) (He.ga (He.frG g a1) x)
  let K2 := He.frG g a2
  let a3 := a2 ++ M.map fun p => He.ma K2 (He.ga K2 p.1) p.2
  let K3 := He.frG g a3
  let ds := D.map (At.ad K3)
  let K4 := He.frG g (a3 ++ ds)
  let a5 := a3 ++ ds ++ ds.flatMap (fnRefs K4)
  let K5 := He.frG g a5
  He.frG g (a5 ++ ds.flatMap (seqRefs K5))
theorem seeG_in {N C : List Str} {M : List (Str × Str)} {D : List At} {h : Heap} : (seeG N C M D h.get?).In h := He.frG_in
/-! ### a def -/
abbrev FnZ : Type := Option (Str × Str × Arguments × FuncBody × Scope × Addr × List Str × Addr)
def fnZ (K : Fg) (a : Addr) : FnZ := match K.lookup a with
  | some ⟨_, _, .func fd, _⟩ => some (fd.name, fd.qualname, fd.params, fd.body, fd.scope, fd.globals, fd.closure.map (·.1), fd.builtins)
  | _ => none
structure DefP where
  at_ : At
  name : Str
  qual : Str
  st : Stmt
  dfl : List He.Dv := []
  clo : List Str := []
def DefP.val (d : DefP) : FnZ := some (d.name, d.qual, defArgs d.st, .stmts (defBody d.st), defScope d.st, mainGlobals, d.clo, builtinsNs)
def DefP.dvs (K : Fg) (d : DefP) : List V := d.dfl.map (He.Dv.v K)
def DefP.ok (K : Fg) (d : DefP) : Bool := PySem.W.keepIn K (.ref (d.at_.ad K)) && (PySem.W.isFn K (.ref (d.at_.ad K)) && (match K.lookup (d.at_.ad K) with
  | some ⟨_, _, .func fd, _⟩ => PySem.W.codeIn K fd.code d.qual && He.dflB K fd.defaults (d.dvs K)
  | _ => false))
theorem DefP.funD {K : Fg} {d : DefP} (hc : d.clo = []) (e : fnZ K (d.at_.ad K) = d.val) (c : d.ok K = true) : ∃ fd, FunD K d.name d.qual (defArgs d.st) (defBody d.st) (defScope d.st) (d.dvs K) [] (d.at_.ad K) fd := by
  obtain ⟨kp, c1⟩ := He.ba c
  obtain ⟨_, c2⟩ := He.ba c1
  unfold fnZ at e
  cases q : K.lookup (d.at_.ad K) with
  | none =>
    rw [q] at c2
    cases c2
  | some o =>
    obtain ⟨oc, od, dt, osl⟩ := o
    rw [q] at c2 e
    cases dt with
    | func fd =>
      obtain ⟨n1, n2, n3, n4, n5, n6, n7, n8, n9, n10, n11, n12, n13, n14, n15⟩ := fd
      have e2 : (some (n1, n2, n3, n4, n5, n6, n7.map (·.1), n15) : FnZ) = some (d.name, d.qual, defArgs d.st, .stmts (defBody d.st), defScope d.st, mainGlobals, d.clo, builtinsNs) := e
      rw [hc] at e2
      simp only [Option.some.injEq, Prod.mk.injEq, List.map_eq_nil_iff] at e2
      obtain ⟨h1, h2, h3, h4, h5, h6, h7, h8⟩ := e2
      subst h1 h2 h3 h4 h5 h6 h7 h8
      obtain ⟨k1, k3⟩ := He.ba (show (PySem.W.codeIn K n13 d.qual && He.dflB K n8 (d.dvs K)) = true from c2)
      exact ⟨_, ⟨oc, od, n8, n9, n10, n11, n12, n13, n14, osl, rfl, q, k1, He.dflB_ok k3, .inl rfl⟩, kp⟩
    | _ => cases c2
/-! ### the Hook -/
def obsP (ck : List (Fg → Bool)) (fn : List DefP) (K : Fg) : Bool × List FnZ := ((ck.all fun f => f K) && fn.all fun d => d.ok K, fn.map fun d => fnZ K (d.at_.ad K))
def valP (fn : List DefP) : Bool × List FnZ := (true, fn.map DefP.val)
def SaysP (ck : List (Fg → Bool)) (fn : List DefP) (K : Fg) : Prop := obsP ck fn K = valP fn
structure See where
  N : List Str
  C : List Str
  M : List (Str × Str)
  D : List At
def See.fg (z : See) (g : Addr → Option Obj) : Fg := seeG z.N z.C z.M z.D g
def hookP (z : See) (ck : List (Fg → Bool)) (fn : List DefP) : PySem.W.Hook where
  α := Bool × List FnZ
  obs := fun s => obsP ck fn (z.fg s.heap.get?)
  val := fun _ => valP fn
  says := fun _ h => ∃ K : Fg, K.In h ∧ SaysP ck fn K
  of := fun _ _ e => ⟨_, seeG_in, e⟩
  keeps := fun _ _ _ ⟨K, hK, c⟩ k => ⟨K, PySem.W.Frag.In.keeps hK k, c⟩
theorem obsP_eq {z : See} {ck : List (Fg → Bool)} {fn : List DefP} {g : Addr → Option Obj} {s : Shared} (h : ∀ a, g a = s.heap.get? a) : obsP ck fn (z.fg g) = (hookP z ck fn).obs s := by
  have e : g = s.heap.get? := funext h
  rw [e] <;> rfl
section
variable {ck : List (Fg → Bool)} {fn : List DefP} {K : Fg}
theorem SaysP.fact (c : SaysP ck fn K) (i : Nat) {f : Fg → Bool} (h : ck[i]? = some f := by rfl) : f K = true := by
  have c1 := (He.ba (show ((ck.all fun f => f K) && fn.all fun d => d.ok K) = true from congrArg (fun z : Bool × List FnZ => z.1) c)).1
  exact List.all_eq_true.mp c1 f (List.mem_of_getElem? h)
theorem SaysP.okd (c : SaysP ck fn K) (i : Nat) {d : DefP} (h : fn[i]? = some d := by rfl) : d.ok K = true := by
  have c2 := (He.ba (show ((ck.all fun f => f K) && fn.all fun d => d.ok K) = true from congrArg (fun z : Bool × List FnZ => z.1) c)).2
  exact List.all_eq_true.mp c2 d (List.mem_of_getElem? h)
theorem SaysP.valD (c : SaysP ck fn K) (i : Nat) {d : DefP} (h : fn[i]? = some d := by rfl) : fnZ K (d.at_.ad K) = d.val := by
  have e : fn.map (fun d => fnZ K (d.at_.ad K)) = fn.map DefP.val := congrArg (fun z : Bool × List FnZ => z.2) c
  have e2 : (fn.map fun d => fnZ K (d.at_.ad K))[i]? = (fn.map DefP.val)[i]? := by rw [e]
  rw [List.getElem?_map, List.getElem?_map, h] at e2
  exact Option.some.inj e2
theorem SaysP.def_ (c : SaysP ck fn K) (i : Nat) {d : DefP} (h : fn[i]? = some d := by rfl) (hc : d.clo = [] := by rfl) : ∃ fd, FunD K d.name d.qual (defArgs d.st) (defBody d.st) (defScope d.st) (d.dvs K) [] (d.at_.ad K) fd :=
  DefP.funD hc (c.valD i h) (c.okd i h)
end
/-! ### checks -/
def ckGlo (x : Str) (K : Fg) : Bool := He.eqO (PySem.W.nsIn K mainGlobals x) (some (some (.ref (He.ga K x))))
def ckFree (x : Str) (K : Fg) : Bool := He.eqO (PySem.W.nsIn K mainGlobals x) (some none)
/-- a class with slots; its descriptors ps by name and place -/
def ckSl (x : Str) (K : Fg) : Bool := PySem.W.plainGet K (He.ga K x) Str.empty && (PySem.W.isClsIn K (He.ga K x) && (PySem.W.plainOver K (He.ga K x) && He.eqO (PySem.W.findIn K (.ref (He.ga K x)) "__setattr__") (some (some (.builtin "object.__setattr__")))))
def ckSlot (x f : Str) (i : Nat) (K : Fg) : Bool := He.eqO (PySem.W.findIn K (.ref (He.ga K x)) f) (some (some (.ref (He.ma K (He.ga K x) f)))) && (He.eqO (PySem.W.specialIn K (.ref (He.ma K (He.ga K x) f)) "__get__") (some (some (.builtin "member_descriptor.__get__"))) &&
  (decide (PySem.W.takesIn K (.ref (He.ma K (He.ga K x) f)) = some true) && (decide (PySem.W.typeIn K (.ref (He.ma K (He.ga K x) f)) = some (.type "member_descriptor")) && (decide (PySem.W.slotIn K (He.ma K (He.ga K x) f) (He.ga K x) = some i) && decide (i < 1000)))))
def ckCls (x : Str) (K : Fg) : Bool := PySem.W.plainGet K (He.ga K x) Str.empty && (PySem.W.hasDictIn K (He.ga K x) && (PySem.W.plainOver K (He.ga K x) && He.eqO (PySem.W.findIn K (.ref (He.ga K x)) "__setattr__") (some (some (.builtin "object.__setattr__")))))
def ckNo (x f : Str) (K : Fg) : Bool := He.eqO (PySem.W.findIn K (.ref (He.ga K x)) f) (some none)
def ckMeth (x m : Str) (K : Fg) : Bool := He.eqO (PySem.W.findIn K (.ref (He.ga K x)) m) (some (some (.ref (He.ma K (He.ga K x) m)))) && (PySem.W.isFn K (.ref (He.ma K (He.ga K x) m)) && PySem.W.keepIn K (.ref (He.ma K (He.ga K x) m)))
def ckMk (x : Str) (K : Fg) : Bool := PySem.W.makesIn K (He.ga K x) && (He.eqO (PySem.W.findIn K (.ref (He.ga K x)) "__init__") (some (some (.ref (He.ma K (He.ga K x) "__init__")))) && (PySem.W.isFn K (.ref (He.ma K (He.ga K x) "__init__")) && PySem.W.keepIn K (.ref (He.ga K x))))
/-- a property and its getter -/
def ckProp (x f : Str) (K : Fg) : Bool := He.eqO (PySem.W.findIn K (.ref (He.ga K x)) f) (some (some (.ref (He.ma K (He.ga K x) f)))) && (He.eqO (PySem.W.specialIn K (.ref (He.ma K (He.ga K x) f)) "__get__") (some (some (.builtin "property.__get__"))) &&
  (decide (PySem.W.takesIn K (.ref (He.ma K (He.ga K x) f)) = some true) && (match PySem.W.recIn K (He.ma K (He.ga K x) f) "property" with
    | some (v :: _) => decide (v = .ref ((At.pg x f).ad K))
    | _ => false)))
def ckSet (x f : Str) (K : Fg) : Bool := He.eqO (PySem.W.takerIn K (He.ga K x) f) (some (some (.ref (He.ma K (He.ga K x) f)))) && (decide (PySem.W.typeIn K (.ref (He.ma K (He.ga K x) f)) = some (.type "property")) && (match PySem.W.recIn K (He.ma K (He.ga K x) f) "property" with
    | some (_ :: v :: _) => decide (v = .ref ((At.ps x f).ad K))
    | _ => false))
def ckCm (x m : Str) (K : Fg) : Bool := PySem.W.readsIn K (He.ga K x) (.type "type") && (He.eqO (PySem.W.specialIn K (.ref (He.ga K x)) "__getattribute__") (some (some (.builtin "type.__getattribute__"))) &&
  ((match PySem.W.findCls K (.ref (He.ga K x)) (.type "type") m with
    | some (.get a b c d) => decide (a = .builtin "classmethod.__get__") && (decide (b = .ref (He.ma K (He.ga K x) m)) && (decide (c = .none) && decide (d = .ref (He.ga K x))))
    | _ => false) && ((match PySem.W.recIn K (He.ma K (He.ga K x) m) "classmethod" with
    | some (v :: _) => decide (v = .ref ((At.cm x m).ad K))
    | _ => false) && PySem.W.fnIn K ((At.cm x m).ad K))))
/-- an own exception below ValueError without __init__ -/
def ckExc0 (x : Str) (B : List Str) (K : Fg) : Bool := PySem.W.excIn K (He.ga K x) (B.map (fun y => Value.ref (He.ga K y)) ++ He.veBase) "ValueError.__new__" && (PySem.W.keepIn K (.ref (He.ga K x)) && (decide (PySem.W.subIn K (.ref (He.ga K x)) (.type "BaseException") = some true) && decide (PySem.W.typeIn K (.ref (He.ga K x)) = some (.type "type"))))
def ckExm (x y : Str) (b : Bool) (K : Fg) : Bool := decide (PySem.W.exmOne K (.ref (He.ga K x)) (.ref (He.ga K y)) = some b)
def ckXcls (C : Addr) (K : Fg) : Bool := match K.lookup C with
  | some ⟨.type "type", _, .cls cd, sl⟩ => (match cd.mro, sl.toList with
    | .ref C' :: bm, [_, _, _, _, some (.builtin n), _] => C' == C && n == "ValueError.__new__" && !cd.hasDel && cd.hasDict && PySem.HandSPX.refsVE bm
    | _, _ => false)
  | _ => false
section
variable {K : Fg} {h : Heap} {mg : Str → Option Value} {x f m y : Str} {i : Nat} {b : Bool}
theorem ckGlo_ok (X : K.In h) (G : h.Ns mainGlobals mg) (c : ckGlo x K = true) : mg x = some (.ref (He.ga K x)) := PySem.W.mg_of X G (He.eqO_ok c)
theorem ckFree_ok (X : K.In h) (G : h.Ns mainGlobals mg) (c : ckFree x K = true) : mg x = none := PySem.W.mg_none_of X G (He.eqO_ok c)
theorem ckSl_ok (c : ckSl x K = true) : SlX.SCls K (He.ga K x) := by
  obtain ⟨a, c⟩ := He.ba c
  obtain ⟨b, c⟩ := He.ba c
  obtain ⟨d, e⟩ := He.ba c
  exact ⟨a, b, d, He.eqO_ok e⟩
theorem ckSlot_ok (c : ckSlot x f i K = true) : SlX.Slot1 K (He.ga K x) f (He.ma K (He.ga K x) f) i := by
  obtain ⟨a, c⟩ := He.ba c
  obtain ⟨b, c⟩ := He.ba c
  obtain ⟨d, c⟩ := He.ba c
  obtain ⟨e, c⟩ := He.ba c
  obtain ⟨g, k⟩ := He.ba c
  exact ⟨He.eqO_ok a, He.eqO_ok b, of_decide_eq_true d, of_decide_eq_true e, of_decide_eq_true g, of_decide_eq_true k⟩
theorem ckCls_ok (c : ckCls x K = true) : Cls K (He.ga K x) := by
  obtain ⟨a, c⟩ := He.ba c
  obtain ⟨b, c⟩ := He.ba c
  obtain ⟨d, e⟩ := He.ba c
  exact ⟨a, b, d, He.eqO_ok e⟩
theorem ckNo_ok (c : ckNo x f K = true) : NoAttr K (He.ga K x) f := He.eqO_ok c
theorem ckMeth_ok (c : ckMeth x m K = true) : Meth K (He.ga K x) m (He.ma K (He.ga K x) m) := by
  obtain ⟨a, c⟩ := He.ba c
  obtain ⟨b, d⟩ := He.ba c
  exact ⟨He.eqO_ok a, b, d⟩
theorem ckMk_ok (c : ckMk x K = true) : Mk K (He.ga K x) (He.ma K (He.ga K x) "__init__") := by
  obtain ⟨a, c⟩ := He.ba c
  obtain ⟨b, c⟩ := He.ba c
  obtain ⟨d, e⟩ := He.ba c
  exact ⟨a, He.eqO_ok b, d, e⟩
theorem ckProp_ok (c : ckProp x f K = true) : PropOf K (He.ga K x) f (He.ma K (He.ga K x) f) ((At.pg x f).ad K) := by
  obtain ⟨a, c⟩ := He.ba c
  obtain ⟨b, c⟩ := He.ba c
  obtain ⟨d, c⟩ := He.ba c
  refine ⟨He.eqO_ok a, He.eqO_ok b, of_decide_eq_true d, ?_⟩
  cases q : PySem.W.recIn K (He.ma K (He.ga K x) f) "property" with
  | none =>
    rw [q] at c
    cases c
  | some vs =>
    rw [q] at c
    cases vs with
    | nil => cases c
    | cons v r => exact ⟨r, by rw [of_decide_eq_true c]⟩
theorem ckSet_ok (c : ckSet x f K = true) : SetOf K (He.ga K x) f (He.ma K (He.ga K x) f) ((At.ps x f).ad K) := by
  obtain ⟨a, c⟩ := He.ba c
  obtain ⟨b, c⟩ := He.ba c
  refine ⟨He.eqO_ok a, of_decide_eq_true b, ?_⟩
  cases q : PySem.W.recIn K (He.ma K (He.ga K x) f) "property" with
  | none =>
    rw [q] at c
    cases c
  | some vs =>
    rw [q] at c
    cases vs with
    | nil => cases c
    | cons u r =>
      cases r with
      | nil => cases c
      | cons v r => exact ⟨u, r, by rw [of_decide_eq_true c]⟩
theorem ckCm_ok (c : ckCm x m K = true) : ClX.CRead K (He.ga K x) (.type "type") ∧ ClX.CMet K (He.ga K x) (.type "type") m (He.ma K (He.ga K x) m) ((At.cm x m).ad K) := by
  obtain ⟨a, c⟩ := He.ba c
  obtain ⟨b, c⟩ := He.ba c
  obtain ⟨d, c⟩ := He.ba c
  obtain ⟨e, k⟩ := He.ba c
  refine ⟨⟨a, He.eqO_ok b⟩, ⟨?_, ?_, k⟩⟩
  · cases q : PySem.W.findCls K (.ref (He.ga K x)) (.type "type") m with
    | none =>
      rw [q] at d
      cases d
    | some z =>
      rw [q] at d
      cases z with
      | get p1 p2 p3 p4 =>
        obtain ⟨d1, d⟩ := He.ba d
        obtain ⟨d2, d⟩ := He.ba d
        obtain ⟨d3, d4⟩ := He.ba d
        rw [of_decide_eq_true d1, of_decide_eq_true d2, of_decide_eq_true d3, of_decide_eq_true d4]
      | _ => cases d
  · cases q : PySem.W.recIn K (He.ma K (He.ga K x) m) "classmethod" with
    | none =>
      rw [q] at e
      cases e
    | some vs =>
      rw [q] at e
      cases vs with
      | nil => cases e
      | cons v r => exact ⟨r, by rw [of_decide_eq_true e]⟩
theorem ckExc0_ok {B : List Str} (c : ckExc0 x B K = true) : PySem.W.excIn K (He.ga K x) (B.map (fun y => Value.ref (He.ga K y)) ++ He.veBase) "ValueError.__new__" = true ∧ PySem.W.keepIn K (.ref (He.ga K x)) = true ∧ PySem.W.subIn K (.ref (He.ga K x)) (.type "BaseException") = some true ∧
    PySem.W.typeIn K (.ref (He.ga K x)) = some (.type "type") := by
  obtain ⟨a, c⟩ := He.ba c
  obtain ⟨b, c⟩ := He.ba c
  obtain ⟨d, e⟩ := He.ba c
  exact ⟨a, b, of_decide_eq_true d, of_decide_eq_true e⟩
theorem ckExm_ok (c : ckExm x y b K = true) : PySem.W.exmOne K (.ref (He.ga K x)) (.ref (He.ga K y)) = some b := of_decide_eq_true c
theorem ckXcls_ok {C : Addr} (q : ckXcls C K = true) : ∃ nm q N bs bm sn sub ab col dd k0 k1 k2 k3 k5, K.lookup C = some (excClassObj nm q C N bs bm true sn sub ab col dd k0 k1 k2 k3 k5 "ValueError.__new__") ∧ PySem.HandSPX.refsVE bm = true := by
  unfold ckXcls at q
  split at q
  · rename_i dd cd sl ho
    split at q
    · rename_i C' bm k0 k1 k2 k3 n k5 hm hs
      simp only [Bool.and_eq_true, beq_iff_eq, Bool.not_eq_true'] at q
      obtain ⟨⟨⟨⟨rfl, rfl⟩, hdel⟩, hdc⟩, ht⟩ := q
      obtain ⟨nm, bs, mro, ns, qn, hd, sn, sub, ab, col, del⟩ := cd
      dsimp only at hm hdel hdc
      subst hm hdel hdc
      have hsl : sl = #[k0, k1, k2, k3, some (.builtin "ValueError.__new__"), k5] := by
        obtain ⟨l⟩ := sl
        simp only at hs
        rw [hs]
      subst hsl
      exact ⟨nm, qn, ns, bs, bm, sn, sub, ab, col, dd, k0, k1, k2, k3, k5, ho, ht⟩
    · cases q
  · cases q
end
end Pl

end

section
set_option Elab.async false
set_option linter.all false
set_option maxRecDepth 100000
set_option maxHeartbeats 2000000
/-! PlK: the own exceptions out of the Hook's checks. -/
namespace Pl
open PySem PySem.Spec PyProof.Rows L2

def ccOf (K : Fg) (f : Addr) : Addr := match K.lookup f with
  | some ⟨_, _, .func fd, _⟩ => (match fd.closure with
    | [(_, c)] => c
    | _ => 0)
  | _ => 0
def cdOf (K : Fg) (f : Addr) : Addr := match K.lookup f with
  | some ⟨_, _, .func fd, _⟩ => (match fd.code with
    | .ref c => c
    | _ => 0)
  | _ => 0
/-- the def at f closes over the class at C; its code tells the file; no defaults -/
def ckXf (file q : Str) (C f : Addr) (K : Fg) : Bool := match K.lookup f with
  | some ⟨_, _, .func fd, _⟩ => (match fd.closure, fd.code, fd.defaults, fd.kwdefaults with
    | [(x, cc)], .ref cd, .none, .none => decide (x = "__class__") && ((match K.lookup cc with
      | some ⟨_, _, .cell (some v), _⟩ => decide (v = .ref C)
      | _ => false) && ((match K.lookup cd with
      | some ⟨_, _, .fields vs, _⟩ => (match (vs[2]? : Option Value) with
        | some (.str y _) => file == y
        | _ => false)
      | _ => false) && PySem.W.codeIn K (.ref cd) q))
    | _, _, _, _ => false)
  | _ => false
def initAt (K : Fg) (x : Str) : Addr := He.ma K (He.ga K x) "__init__"
def ckX (file : Str) (x : Str) (K : Fg) : Bool := ckXcls (He.ga K x) K && (He.eqO (PySem.W.findIn K (.ref (He.ga K x)) "__setattr__") (some (some (.builtin "object.__setattr__"))) && (He.eqO (PySem.W.findIn K (.ref (He.ga K x)) "__init__") (some (some (.ref (initAt K x)))) &&
  (decide (PySem.W.typeIn K (.ref (initAt K x)) = some (.type "function")) && (PySem.W.keepIn K (.ref (He.ga K x)) && (decide (PySem.W.subIn K (.ref (He.ga K x)) (.type "BaseException") = some true) && (decide (PySem.W.typeIn K (.ref (He.ga K x)) = some (.type "type")) &&
  (decide (PySem.W.mroIn K (He.ga K x) (.ref (He.ga K x)) = some true) && (decide (PySem.W.nsIn K cStatics "thirdparty.any" = some none) && (decide (PySem.W.ks_superIn K (He.ga K x) (He.ga K x) "__init__" = some (some (.builtin "ValueError.__init__"))) &&
  (decide (PySem.W.subIn K (.ref (He.ga K x)) (.type "ValueError") = some true) && ckXf file (x ++ ".__init__") (He.ga K x) (initAt K x) K))))))))))
section
variable {P : Program} {K : Fg} {mg : Str → Option Value} {x : Str} {C f : Addr} {d : DefP}
theorem ckXf_ok {file q : Str} (c : ckXf file q C f K = true) : (∃ oc od fd osl, K.lookup f = some ⟨oc, od, .func fd, osl⟩ ∧ fd.closure = [(("__class__" : Str), ccOf K f)] ∧ fd.code = .ref (cdOf K f) ∧ fd.defaults = .none ∧ fd.kwdefaults = .none) ∧
    (∃ cl cld csl, K.lookup (ccOf K f) = some ⟨cl, cld, .cell (some (.ref C)), csl⟩) ∧ (∃ ccl cdd vs ccs y tf, K.lookup (cdOf K f) = some ⟨ccl, cdd, .fields vs, ccs⟩ ∧ vs[2]? = some (.str y tf) ∧ (file == y) = true) ∧ PySem.W.codeIn K (.ref (cdOf K f)) q = true := by
  unfold ckXf at c
  unfold ccOf cdOf
  split at c
  · rename_i oc od fd osl ho
    rw [ho]
    obtain ⟨n1, n2, n3, n4, n5, n6, n7, n8, n9, n10, n11, n12, n13, n14, n15⟩ := fd
    dsimp only at c ⊢
    split at c
    · rename_i y cc cd
      obtain ⟨c1, c⟩ := He.ba c
      obtain ⟨c2, c⟩ := He.ba c
      obtain ⟨c3, c4⟩ := He.ba c
      have ey : y = "__class__" := of_decide_eq_true c1
      subst ey
      dsimp only
      refine ⟨⟨oc, od, _, osl, rfl, rfl, rfl, rfl, rfl⟩, ?_, ?_, c4⟩
      · split at c2
        · rename_i a1 a2 v a3 hcc
          rw [of_decide_eq_true c2] at hcc
          exact ⟨_, _, _, hcc⟩
        · cases c2
      · split at c3
        · rename_i a1 a2 vs a3 hcd
          split at c3
          · rename_i y tf hv
            exact ⟨_, _, _, _, _, _, hcd, hv, c3⟩
          · cases c3
        · cases c3
    · cases c
  · cases c
theorem ckX_cls (c : ckX P.main.file x K = true) (nosup : mg "super" = none) (top : (P.main.scope.names.lookup ("super" : Str)).isSome = false) : XCls P K mg (He.ga K x) (initAt K x) (ccOf K (initAt K x)) (cdOf K (initAt K x)) := by
  obtain ⟨c1, c⟩ := He.ba c
  obtain ⟨c2, c⟩ := He.ba c
  obtain ⟨c3, c⟩ := He.ba c
  obtain ⟨c4, c⟩ := He.ba c
  obtain ⟨c5, c⟩ := He.ba c
  obtain ⟨c6, c⟩ := He.ba c
  obtain ⟨c7, c⟩ := He.ba c
  obtain ⟨c8, c⟩ := He.ba c
  obtain ⟨c9, c⟩ := He.ba c
  obtain ⟨c10, c⟩ := He.ba c
  obtain ⟨c11, c12⟩ := He.ba c
  obtain ⟨_, x2, x3, _⟩ := ckXf_ok c12
  exact ⟨ckXcls_ok c1, He.eqO_ok c2, He.eqO_ok c3, of_decide_eq_true c4, c5, of_decide_eq_true c6, of_decide_eq_true c7, x2, x3, of_decide_eq_true c8, of_decide_eq_true c9, of_decide_eq_true c10, of_decide_eq_true c11, nosup, top⟩
theorem ckX_fn {file : Str} {as : List Arg} {body : List Stmt} {sc : Scope} (c : ckX file x K = true) (hd : d.at_.ad K = initAt K x) (hn : d.name = "__init__") (hq : d.qual = x ++ ".__init__") (e : fnZ K (d.at_.ad K) = d.val) (h1 : defArgs d.st = xPar as) (h2 : defBody d.st = body) (h3 : defScope d.st = sc) :
    XFn K (initAt K x) (ccOf K (initAt K x)) (cdOf K (initAt K x)) as body sc := by
  obtain ⟨_, c⟩ := He.ba c
  obtain ⟨_, c⟩ := He.ba c
  obtain ⟨_, c⟩ := He.ba c
  obtain ⟨_, c⟩ := He.ba c
  obtain ⟨_, c⟩ := He.ba c
  obtain ⟨_, c⟩ := He.ba c
  obtain ⟨_, c⟩ := He.ba c
  obtain ⟨_, c⟩ := He.ba c
  obtain ⟨_, c⟩ := He.ba c
  obtain ⟨_, c⟩ := He.ba c
  obtain ⟨_, c⟩ := He.ba c
  obtain ⟨⟨oc, od, fd, osl, ho, f1, f2, f3, f4⟩, _, _, hcd⟩ := ckXf_ok c
  obtain ⟨n1, n2, n3, n4, n5, n6, n7, n8, n9, n10, n11, n12, n13, n14, n15⟩ := fd
  dsimp only at f1 f2 f3 f4
  rw [f1, f2, f3, f4] at ho
  rw [hd] at e
  unfold fnZ at e
  rw [ho] at e
  have e2 : (some (n1, n2, n3, n4, n5, n6, [("__class__" : Str)], n15) : FnZ) = some (d.name, d.qual, defArgs d.st, .stmts (defBody d.st), defScope d.st, mainGlobals, d.clo, builtinsNs) := e
  rw [hn, hq, h1, h2, h3] at e2
  simp only [Option.some.injEq, Prod.mk.injEq] at e2
  obtain ⟨g1, g2, g3, g4, g5, g6, g7, g8⟩ := e2
  subst g1 g2 g3 g4 g5 g6 g8
  exact ⟨oc, od, _, n10, n11, n12, n14, osl, ho, hcd⟩
end
/-- an exception with one field, two fields, at C -/
def Exc1 (P : Program) (K : Fg) (mg : Str → Option Value) (xn f1 : Str) (C : Addr) : Prop := ∃ fI cc cda tx j a0 a1 p0 p1 p2 p3 p4 p5 q1 q2 q3 q4, X1 P K mg xn f1 C fI cc cda tx j a0 a1 p0 p1 p2 p3 p4 p5 q1 q2 q3 q4
def Exc2 (P : Program) (K : Fg) (mg : Str → Option Value) (xn f1 f2 : Str) (C : Addr) : Prop := ∃ fI cc cda tx j a0 a1 a2 p0 p1 p2 p3 p4 p5 q1 q2 q3 q4 r1 r2 r3 r4, X2 P K mg xn f1 f2 C fI cc cda tx j a0 a1 a2 p0 p1 p2 p3 p4 p5 q1 q2 q3 q4 r1 r2 r3 r4
section
variable {X : Cx} {C : Addr} {xn f1 f2 : Str} {k : Nat}
theorem ps_rx1 {a : Expr} {ta : TA} {W : WX} {p pos pos2 : Pos} (hc : X.calm = true) (D : Exc1 X.prog X.K X.mg xn f1 C) (hr : Room k X.A) (hk : 1 ≤ k) (tk : Takes X W) (ha : PA X [a] ta) (hg : Gl X xn) (hdb : (xn == ("__debug__" : Str)) = false := by decide)
    (he : starEach (a :: []) X.env = (false, eval a X.env) :: starEach [] X.env := by rfl) (hpl : (backTo pos (starEach [] X.env)).any (·.1) = false := by rfl) :
    PS X (.Raise (some (.Call (.Name xn p) [a] [] pos)) none pos2) (tRaiseX1 C f1 W ta) := by
  obtain ⟨_, _, _, _, _, _, _, _, _, _, _, _, _, _, _, _, _, D⟩ := D
  exact ps_raiseX1 hc D hr hk tk ha hg hdb he hpl
theorem ps_rx2 {a b : Expr} {ta : TA} {W : WX} {p pos pos2 : Pos} (hc : X.calm = true) (D : Exc2 X.prog X.K X.mg xn f1 f2 C) (hr : Room k X.A) (hk : 1 ≤ k) (tk : Takes X W) (ha : PA X [a, b] ta) (hg : Gl X xn) (hdb : (xn == ("__debug__" : Str)) = false := by decide)
    (he : starEach (a :: [b]) X.env = (false, eval a X.env) :: starEach [b] X.env := by rfl) (hpl : (backTo pos (starEach [b] X.env)).any (·.1) = false := by rfl) :
    PS X (.Raise (some (.Call (.Name xn p) [a, b] [] pos)) none pos2) (tRaiseX2 C f1 f2 W ta) := by
  obtain ⟨_, _, _, _, _, _, _, _, _, _, _, _, _, _, _, _, _, _, _, _, _, _, D⟩ := D
  exact ps_raiseX2 hc D hr hk tk ha hg hdb he hpl
end
section
variable {P : Program} {K : Fg} {mg : Str → Option Value} {x f1 f2 : Str} {d : DefP}
theorem exc1_of {tx : Str} {j : Nat} {a0 a1 p0 p1 p2 p3 p4 p5 q1 q2 q3 q4 : Pos} (c : ckX P.main.file x K = true) (no1 : ckNo x f1 K = true) (gC : mg x = some (.ref (He.ga K x))) (nosup : mg "super" = none) (e : fnZ K (d.at_.ad K) = d.val)
    (top : (P.main.scope.names.lookup ("super" : Str)).isSome = false) (hd : d.at_ = .m x "__init__") (hn : d.name = "__init__") (hq : d.qual = x ++ ".__init__") (h1 : defArgs d.st = xPar [xArg "self" a0, xArg f1 a1]) (h2 : defBody d.st = [xSup tx j p0 p1 p2 p3 p4 p5, xPut f1 q1 q2 q3 q4]) (h3 : defScope d.st = xSc [f1])
    (so : SupOk tx j p0 p1 p2 p3 p4 p5) (n1 : f1 ≠ "self") (n2 : f1 ≠ "super") (n3 : f1 ≠ "__class__") (n4 : (f1 == ("__debug__" : Str)) = false)
    (bd : ∀ cc cda x v qual doc pm an ct, bindArgs (PySem.W.ksFn "__init__" qual (xPar [xArg "self" a0, xArg f1 a1]) [xSup tx j p0 p1 p2 p3 p4 p5, xPut f1 q1 q2 q3 q4] (xSc [f1]) .none .none doc pm an (.ref cda) ct cc) ⟨[.ref x, v], []⟩ = pure [(("self" : Str), .ref x), (f1, v)]) :
    Exc1 P K mg x f1 (He.ga K x) :=
  ⟨_, _, _, _, _, _, _, _, _, _, _, _, _, _, _, _, _, ⟨ckX_cls c nosup top, ckX_fn c (by rw [hd]; rfl) hn hq e h1 h2 h3, so, He.eqO_ok no1, n1, n2, n3, n4, bd _ _, gC⟩⟩
theorem exc2_of {tx : Str} {j : Nat} {a0 a1 a2 p0 p1 p2 p3 p4 p5 q1 q2 q3 q4 r1 r2 r3 r4 : Pos} (c : ckX P.main.file x K = true) (no1 : ckNo x f1 K = true) (no2 : ckNo x f2 K = true) (gC : mg x = some (.ref (He.ga K x))) (nosup : mg "super" = none) (e : fnZ K (d.at_.ad K) = d.val)
    (top : (P.main.scope.names.lookup ("super" : Str)).isSome = false) (hd : d.at_ = .m x "__init__") (hn : d.name = "__init__") (hq : d.qual = x ++ ".__init__") (h1 : defArgs d.st = xPar [xArg "self" a0, xArg f1 a1, xArg f2 a2]) (h2 : defBody d.st = [xSup tx j p0 p1 p2 p3 p4 p5, xPut f1 q1 q2 q3 q4, xPut f2 r1 r2 r3 r4]) (h3 : defScope d.st = xSc [f1, f2])
    (so : SupOk tx j p0 p1 p2 p3 p4 p5) (n : N2 f1 f2)
    (bd : ∀ cc cda x v v' qual doc pm an ct, bindArgs (PySem.W.ksFn "__init__" qual (xPar [xArg "self" a0, xArg f1 a1, xArg f2 a2]) [xSup tx j p0 p1 p2 p3 p4 p5, xPut f1 q1 q2 q3 q4, xPut f2 r1 r2 r3 r4] (xSc [f1, f2]) .none .none doc pm an (.ref cda) ct cc) ⟨[.ref x, v, v'], []⟩ = pure [(("self" : Str), .ref x), (f1, v), (f2, v')]) :
    Exc2 P K mg x f1 f2 (He.ga K x) :=
  ⟨_, _, _, _, _, _, _, _, _, _, _, _, _, _, _, _, _, _, _, _, _, _, ⟨ckX_cls c nosup top, ckX_fn c (by rw [hd]; rfl) hn hq e h1 h2 h3, so, He.eqO_ok no1, He.eqO_ok no2, n, bd _ _, gC⟩⟩
end
end Pl

end

section
set_option Elab.async false
set_option linter.all false
set_option maxRecDepth 100000
set_option maxHeartbeats 2000000
/-! PlL: rows, entries, layers, tables on the heap; what stays; comprehensions and loops that only add. -/
namespace Pl
open PySem PySem.Spec PyProof.Rows L2 Evl

/-! ### pairs of lists -/
inductive All2 {α β : Type} (R : α → β → Prop) : List α → List β → Prop
  | nil : All2 R [] []
  | cons {a b l m} : R a b → All2 R l m → All2 R (a :: l) (b :: m)
section
variable {α β γ : Type} {R S : α → β → Prop} {l : List α} {m : List β}
theorem All2.len (h : All2 R l m) : l.length = m.length := by
  induction h with
  | nil => rfl
  | cons _ _ ih => rw [List.length_cons, List.length_cons, ih]
theorem All2.imp (h : All2 R l m) (f : ∀ a b, R a b → S a b) : All2 S l m := by
  induction h with
  | nil => exact .nil
  | cons a _ ih => exact .cons (f _ _ a) ih
theorem All2.get (h : All2 R l m) : ∀ {i : Nat} {a : α}, l[i]? = some a → ∃ b, m[i]? = some b ∧ R a b := by
  induction h with
  | nil => intro i a e; simp at e
  | cons r _ ih =>
    intro i a e
    cases i with
    | zero =>
      have e' := Option.some.inj e
      subst e'
      exact ⟨_, rfl, r⟩
    | succ i => exact ih (by simpa using e)
theorem All2.get' (h : All2 R l m) : ∀ {i : Nat} {b : β}, m[i]? = some b → ∃ a, l[i]? = some a ∧ R a b := by
  induction h with
  | nil => intro i a e; simp at e
  | cons r _ ih =>
    intro i a e
    cases i with
    | zero =>
      have e' := Option.some.inj e
      subst e'
      exact ⟨_, rfl, r⟩
    | succ i => exact ih (by simpa using e)
theorem All2.app {l' : List α} {m' : List β} (h : All2 R l m) (h' : All2 R l' m') : All2 R (l ++ l') (m ++ m') := by
  induction h with
  | nil => exact h'
  | cons r _ ih => exact .cons r ih
theorem All2.of_get : ∀ {l : List α} {m : List β}, l.length = m.length → (∀ (i : Nat) a b, l[i]? = some a → m[i]? = some b → R a b) → All2 R l m
  | [], [], _, _ => .nil
  | [], _ :: _, e, _ => by cases e
  | _ :: _, [], e, _ => by cases e
  | a :: l, b :: m, e, h => .cons (h 0 a b rfl rfl) (All2.of_get (by simpa using e) fun i x y h1 h2 => h (i + 1) x y (by simpa using h1) (by simpa using h2))
theorem All2.take (h : All2 R l m) (n : Nat) : All2 R (l.take n) (m.take n) := by
  induction h generalizing n with
  | nil => simp; exact .nil
  | cons r _ ih =>
    cases n with
    | zero => exact .nil
    | succ n => exact .cons r (ih n)
end
/-! ### what stays -/
/-- tuples stay -/
def Tupish (o : HO) : Prop := (∃ xs, o = .tup xs) ∨ ∃ f u, o = .frz f u
def ExN (H H' : Hp) : Prop := ∀ a o, H a = some o → Tupish o → H' a = some o
theorem ExN.refl (H : Hp) : ExN H H := fun _ _ h _ => h
theorem ExN.of {H H' : Hp} (e : Ex H H') : ExN H H' := fun a o h _ => e a o h
theorem ExN.trans {H H1 H2 : Hp} (a : ExN H H1) (b : ExN H1 H2) : ExN H H2 := fun x o h n => b x o (a x o h n) n
theorem ExN.at_ {H : Hp} {D : Addr} {u o : HO} (h : H D = some u) (hn : ¬ Tupish u) : ExN H (upd H D o) := fun a x ha n => by
  rw [upd_ne fun z => ?_]
  · exact ha
  · rw [z, h] at ha
    rw [Option.some.inj ha] at hn
    exact hn n
theorem not_lst {xs : List V} : ¬ Tupish (.lst xs) := fun h => by
  rcases h with ⟨_, h⟩ | ⟨_, _, h⟩ <;> cases h
theorem ExN.list {H : Hp} {D : Addr} {xs ys : List V} (h : H D = some (.lst xs)) : ExN H (upd H D (.lst ys)) := ExN.at_ h not_lst
theorem exn_t {K : Fg} {H H' : Hp} {a : Addr} {xs : List V} (e : ExN H H') (h : SqT K H a xs) : SqT K H' a xs := by
  rcases h with (h | ⟨o, h⟩) | h
  · exact .inl (.inl (e _ _ h (.inl ⟨_, rfl⟩)))
  · exact .inl (.inr ⟨o, e _ _ h (.inr ⟨_, _, rfl⟩)⟩)
  · exact .inr h
theorem ex_slt {H H' : Hp} {a C dx : Addr} {sv : List (Option V)} (e : Ex H H') (h : SlX.Slt H a C dx sv) : SlX.Slt H' a C dx sv := by
  rcases h with ⟨h1, h2⟩ | ⟨h1, h2⟩
  · exact .inl ⟨e _ _ h1, h2⟩
  · exact .inr ⟨e _ _ h1, e _ _ h2⟩
/-- what a store into a fresh instance leaves of the elder heap -/
theorem Ex.slH {H H' : Hp} {a C dx : Addr} {sv : List (Option V)} (e : Ex H H') (h1 : H a = none) (h2 : H dx = none) : Ex H (SlX.slH H' a C dx sv) := fun b o hb => by
  rw [SlX.slH_ne (ne_of_none hb h1) (ne_of_none hb h2)]
  exact e b o hb
theorem Ex.made {H : Hp} {x dx C : Addr} (h1 : H x = none) (h2 : H dx = none) : Ex H (upd (upd H dx (.own x)) x (.ins C dx [])) := fun b o hb => by
  rw [upd_ne (ne_of_none hb h1), upd_ne (ne_of_none hb h2)]
  exact hb
/-! ### the values -/
abbrev Rwv := List Int
structure Ent where
  p : Int
  o : Option Rwv
  n : Option Rwv
abbrev vis (ns : List Int) : List V := ns.map V.int
def VR (K : Fg) (H : Hp) (v : V) (r : Rwv) : Prop := ∃ a, v = .ref a ∧ SqT K H a (vis r)
def VO (K : Fg) (H : Hp) (v : V) : Option Rwv → Prop
  | none => v = .non
  | some r => VR K H v r
def VE (K : Fg) (H : Hp) (v : V) (e : Ent) : Prop := ∃ a x y, v = .ref a ∧ SqT K H a [.int e.p, x, y] ∧ VO K H x e.o ∧ VO K H y e.n
section
variable {K : Fg} {H H' : Hp} {v : V}
theorem VR.ex {v : V} {r : Rwv} (e : ExN H H') (h : VR K H v r) : VR K H' v r := by
  obtain ⟨a, ea, h⟩ := h
  exact ⟨a, ea, exn_t e h⟩
theorem VO.ex {r : Option Rwv} (e : ExN H H') (h : VO K H v r) : VO K H' v r := by
  cases r with
  | none => exact h
  | some r => exact VR.ex e h
theorem VE.ex {r : Ent} (e : ExN H H') (h : VE K H v r) : VE K H' v r := by
  obtain ⟨a, x, y, ea, h, hx, hy⟩ := h
  exact ⟨a, x, y, ea, exn_t e h, VO.ex e hx, VO.ex e hy⟩
theorem vrs_ex {vs : List V} {rs : List Rwv} (e : ExN H H') (h : All2 (VR K H) vs rs) : All2 (VR K H') vs rs := h.imp fun _ _ => VR.ex e
theorem ves_ex {vs : List V} {es : List Ent} (e : ExN H H') (h : All2 (VE K H) vs es) : All2 (VE K H') vs es := h.imp fun _ _ => VE.ex e
/-- None, as the program asks -/
theorem VO.isN {r : Option Rwv} (h : VO K H v r) : decide (v = V.non) = r.isNone := by
  cases r with
  | none =>
    rw [show v = V.non from h]
    simp
  | some r =>
    obtain ⟨a, ea, _⟩ := h
    rw [ea]
    simp
end
/-! ### a comprehension that only adds: its items are told by R, which stays -/
section
variable {K : Fg} {a D : Addr} {xs : List V} {σ : L2.St} {H1 : Hp} {g : TG} {te : TE} {vs : List Nat} {R : Nat → V → Hp → Prop} {Qd : Hp → Prop}
def LcP (H1 : Hp) (D : Addr) (R : Nat → V → Hp → Prop) (i : Nat) (H : Hp) : Prop := Ex H1 H ∧ ∃ ys, H D = some (.lst ys) ∧ ys.length = i ∧ ∀ (k : Nat) y, ys[k]? = some y → R k y H
/-- the turn's end behind such an element -/
theorem lc_all (hx : SqL K H1 a xs) (hz : xs.length < sizeLine) (hD : H1 D = none) (hR : ∀ i y H H', ExN H H' → R i y H → R i y H')
    (hs : ∀ i x H2 (Q : VK), xs[i]? = some x → Ex H1 H2 → (∀ y H3, Ex H2 H3 → R i y H3 → Q y H3) → g x (wipe σ vs) H2 fun σ2 H3 => wipe σ2 vs = wipe σ vs ∧ te σ2 H3 Q)
    (q : ∀ ys H2, Ex H1 H2 → H2 D = some (.lst ys) → ys.length = xs.length → (∀ (i : Nat) y, ys[i]? = some y → R i y H2) → Qd H2) :
    ∃ W : Nat → Nat → Hp → Prop, (∃ m, W 0 m (upd H1 D (.lst []))) ∧ ∀ i m H, W i m H →
      ((Itl K a).stop i H ∧ Qd H) ∨ ((Itl K a).go i H ∧ ∃ Nx : Hp → Prop, (∀ H', Nx H' → ∃ m', m' < m ∧ W (i + 1) m' H') ∧ ∀ x H', (Itl K a).yld i H x H' → g x (wipe σ vs) H' fun σ2 H2 => wipe σ2 vs = wipe σ vs ∧ tYes σ2 H2 fun b H3 =>
        if b = true then te σ2 H3 fun y H4 => ∃ acc, H4 D = some (.lst acc) ∧ acc.length < sizeLine ∧ Nx (upd H4 D (.lst (acc ++ [y]))) else Nx H3) := by
  refine lc_list (xs := xs) (LcP H1 D R) ⟨Ex.new hD, [], upd_same, rfl, fun k y e => by simp at e⟩ (fun i H _ p => ex_l p.1 hx) (fun i x H hi p => ?_) (fun H p => ?_)
  · obtain ⟨e1, ys, hy, hl, hr⟩ := p
    have hlt := (List.getElem?_eq_some_iff.mp hi).1
    have z := hs i x H (fun y H4 => ∃ acc, H4 D = some (.lst acc) ∧ acc.length < sizeLine ∧ LcP H1 D R (i + 1) (upd H4 D (.lst (acc ++ [y])))) hi e1 fun y H3 e2 ry => by
      refine ⟨ys, e2 _ _ hy, by omega, Ex.mut (e1.trans e2) hD, ys ++ [y], upd_same, by rw [List.length_append, hl]; rfl, fun k z hk => ?_⟩
      have en : ExN H3 (upd H3 D (.lst (ys ++ [y]))) := ExN.list (e2 _ _ hy)
      by_cases hk2 : k < ys.length
      · rw [List.getElem?_append_left hk2] at hk
        exact hR _ _ _ _ ((ExN.of e2).trans en) (hr k z hk)
      · have ek : k = ys.length := by
          have := (List.getElem?_eq_some_iff.mp hk).1
          rw [List.length_append] at this
          simp at this
          omega
        subst ek
        rw [List.getElem?_append_right (Nat.le_refl _)] at hk
        have ez : y = z := by simpa using hk
        subst ez
        rw [hl]
        exact hR _ _ _ _ en ry
    exact z
  · obtain ⟨e1, ys, hy, hl, hr⟩ := p
    exact q ys H e1 hy hl hr
/-- the target a name -/
theorem lc_allN {j : Nat} (hx : SqL K H1 a xs) (hz : xs.length < sizeLine) (hD : H1 D = none) (hR : ∀ i y H H', ExN H H' → R i y H → R i y H') (hw : ∀ x, wipe ((wipe σ vs).set j (some x)) vs = wipe σ vs)
    (hs : ∀ i x H2 (Q : VK), xs[i]? = some x → Ex H1 H2 → (∀ y H3, Ex H2 H3 → R i y H3 → Q y H3) → te ((wipe σ vs).set j (some x)) H2 Q)
    (q : ∀ ys H2, Ex H1 H2 → H2 D = some (.lst ys) → ys.length = xs.length → (∀ (i : Nat) y, ys[i]? = some y → R i y H2) → Qd H2) :
    ∃ W : Nat → Nat → Hp → Prop, (∃ m, W 0 m (upd H1 D (.lst []))) ∧ ∀ i m H, W i m H →
      ((Itl K a).stop i H ∧ Qd H) ∨ ((Itl K a).go i H ∧ ∃ Nx : Hp → Prop, (∀ H', Nx H' → ∃ m', m' < m ∧ W (i + 1) m' H') ∧ ∀ x H', (Itl K a).yld i H x H' → gName j x (wipe σ vs) H' fun σ2 H2 => wipe σ2 vs = wipe σ vs ∧ tYes σ2 H2 fun b H3 =>
        if b = true then te σ2 H3 fun y H4 => ∃ acc, H4 D = some (.lst acc) ∧ acc.length < sizeLine ∧ Nx (upd H4 D (.lst (acc ++ [y]))) else Nx H3) :=
  lc_all hx hz hD hR (fun i x H2 Q hi e k => ⟨hw x, hs i x H2 Q hi e k⟩) q
/-- .. the items are functions of the list's: the new list is known -/
theorem lc_mapN {j : Nat} {ys : List V} (hx : SqL K H1 a xs) (hz : xs.length < sizeLine) (hD : H1 D = none) (hl : ys.length = xs.length) (hw : ∀ x, wipe ((wipe σ vs).set j (some x)) vs = wipe σ vs)
    (hs : ∀ (i : Nat) x y H2 (Q : VK), xs[i]? = some x → ys[i]? = some y → Ex H1 H2 → (∀ H3, Ex H2 H3 → Q y H3) → te ((wipe σ vs).set j (some x)) H2 Q)
    (q : ∀ H2, Ex H1 H2 → H2 D = some (.lst ys) → Qd H2) :
    ∃ W : Nat → Nat → Hp → Prop, (∃ m, W 0 m (upd H1 D (.lst []))) ∧ ∀ i m H, W i m H →
      ((Itl K a).stop i H ∧ Qd H) ∨ ((Itl K a).go i H ∧ ∃ Nx : Hp → Prop, (∀ H', Nx H' → ∃ m', m' < m ∧ W (i + 1) m' H') ∧ ∀ x H', (Itl K a).yld i H x H' → gName j x (wipe σ vs) H' fun σ2 H2 => wipe σ2 vs = wipe σ vs ∧ tYes σ2 H2 fun b H3 =>
        if b = true then te σ2 H3 fun y H4 => ∃ acc, H4 D = some (.lst acc) ∧ acc.length < sizeLine ∧ Nx (upd H4 D (.lst (acc ++ [y]))) else Nx H3) :=
  lc_allN (R := fun i y _ => ys[i]? = some y) hx hz hD (fun _ _ _ _ _ h => h) hw (fun i x H2 Q hi e k => by
    have hlt := (List.getElem?_eq_some_iff.mp hi).1
    exact hs i x (ys[i]'(by omega)) H2 Q hi (by simp) e fun H3 e3 => k _ H3 e3 (by simp)) fun zs H2 e hy hl2 hr => by
      have ez : zs = ys := by
        refine List.ext_getElem? fun i => ?_
        by_cases hi : i < zs.length
        · exact (List.getElem?_eq_getElem hi).trans (hr i _ (List.getElem?_eq_getElem hi)).symm
        · rw [List.getElem?_eq_none (by omega), List.getElem?_eq_none (by omega)]
      rw [ez] at hy
      exact q H2 e hy
end
end Pl

end

section
set_option Elab.async false
set_option linter.all false
set_option maxRecDepth 100000
set_option maxHeartbeats 2000000
/-! PlM: from a def of the text to its promise. -/
namespace Pl
open PySem PySem.Spec PyProof.Rows L2 Evl

section
variable {P : Program} {w : World} {K : Fg} {mg : Str → Option Value} {base : Heap} {x qual : Str} {st : Stmt} {N ps ks : List Str} {k : Nat} {sp : Sp} {f C : Addr} {fd : FuncData}
/-- the body's walk -/
def Walked (P : Program) (w : World) (K : Fg) (mg : Str → Option Value) (base : Heap) (k : Nat) (N : List Str) (qual : Str) (st : Stmt) (f : Addr) (sp : Sp) : Prop :=
  ∀ (cdv : Value) (A : Around) (outer : List Env) (s : Shared) (H : Hp) (vs : List V) (Q : VK) (E : XK), Room k (A.deeper (envOfC qual (defScope st) s.heap.objs.size f cdv)) → sp vs H Q E →
    ∃ t, PSs (cxOf (L2.CX P w) P w K mg base N qual (defScope st) f cdv A outer s H E) (defBody st) t ∧ t { nx := fun _ H' => Q .non H', rt := Q } (start N vs) H
def Len (ps : List Str) (sp : Sp) : Prop := ∀ vs H Q E, sp vs H Q E → vs.length = ps.length
theorem tkOf {scope : Scope} {cdv : Value} {A : Around} {outer : List Env} {s : Shared} {H : Hp} {E : XK} : Takes (cxOf (L2.CX P w) P w K mg base N qual scope f cdv A outer s H E) (fun cls d _ H' => E cls d H') := takes_of rfl rfl rfl rfl
theorem poOf {scope : Scope} {cdv : Value} {A : Around} {outer : List Env} {s : Shared} {H : Hp} {E : XK} : PassesOwn (model P w) (cxOf (L2.CX P w) P w K mg base N qual scope f cdv A outer s H E).A (cxOf (L2.CX P w) P w K mg base N qual scope f cdv A outer s H E).env (cxOf (L2.CX P w) P w K mg base N qual scope f cdv A outer s H E).xe :=
  passes_of (X := cxOf (L2.CX P w) P w K mg base N qual scope f cdv A outer s H E) rfl
theorem fna_def (F : FunD K x qual (defArgs st) (defBody st) (defScope st) [] [] f fd) (S : FnScope N ps (defScope st)) (len : Len ps sp)
    (hb : ∀ (kV doc pm : Value) (an : Option Addr) (cdv ct : Value) (us ws : List Value), (us ++ ws).length = ps.length → ws.length = ks.length → bindArgs (PySem.W.fnOf x qual (defArgs st) (defBody st) (defScope st) .none kV doc pm an cdv ct) ⟨us, ks.zip ws⟩ = pure (ps.zip (us ++ ws)))
    (hw : Walked P w K mg base k N qual st f sp) : FnA P w K mg base (k + 1) f ks sp := by
  have G : FnOk P w K mg base (L2.CX P w) (k + 1) f fd ps sp := F.ok S len hw
  refine fna_of G fun s us ws X l1 l2 => ?_
  obtain ⟨oc, od, dV, kV, doc, pm, an, cdv, ct, osl, rfl, lk, hcd, hD, hK⟩ := F.ex
  rcases hD with ⟨_, rfl⟩ | ⟨e, _⟩
  · exact .of_eq (hb kV doc pm an cdv ct us ws l1 l2)
  · exact absurd rfl e
/-- with one default, which is filled in, or is not -/
theorem fna_fill {d : V} (F : FunD K x qual (defArgs st) (defBody st) (defScope st) [d] [] f fd) (S : FnScope N ps (defScope st)) (len : Len ps sp) (n : Nat) (hn : n + 1 = ps.length)
    (hb : ∀ (T : Addr) (kV doc pm : Value) (an : Option Addr) (cdv ct : Value) (us its : List Value), us.length = n → its.length = 1 →
      ∃ k, bindArgs (PySem.W.fnOf x qual (defArgs st) (defBody st) (defScope st) (.ref T) kV doc pm an cdv ct) ⟨us, []⟩ = seqItems? (.ref T) >>= k ∧ k (some its.toArray) = pure (ps.zip (us ++ its.drop 0)))
    (hw : Walked P w K mg base k N qual st f sp) : FnA P w K mg base (k + 1) f [] (fun vs H Q E => sp (vs ++ [d]) H Q E) := by
  have G : FnOk P w K mg base (L2.CX P w) (k + 1) f fd ps sp := F.ok S len hw
  obtain ⟨ds, r, b⟩ := F.binds1 (ps := ps) n 0 (by simp) hn hb
  exact fna_dfl G b r
theorem fna_full {d : V} (F : FunD K x qual (defArgs st) (defBody st) (defScope st) [d] [] f fd) (S : FnScope N ps (defScope st)) (len : Len ps sp)
    (hb : ∀ (T : Addr) (kV doc pm : Value) (an : Option Addr) (cdv ct : Value) (us its : List Value), us.length = ps.length → its.length = 1 →
      ∃ k, bindArgs (PySem.W.fnOf x qual (defArgs st) (defBody st) (defScope st) (.ref T) kV doc pm an cdv ct) ⟨us, []⟩ = seqItems? (.ref T) >>= k ∧ k (some its.toArray) = pure (ps.zip (us ++ its.drop 1)))
    (hw : Walked P w K mg base k N qual st f sp) : FnA P w K mg base (k + 1) f [] sp := by
  have G : FnOk P w K mg base (L2.CX P w) (k + 1) f fd ps sp := F.ok S len hw
  obtain ⟨ds, r, b⟩ := F.binds1 (ps := ps) ps.length 1 (by simp) (by simp) hb
  have e : ds = [] := by
    cases r
    rfl
  rw [e] at b
  exact (fna_dfl G b .nil).imp fun vs H Q E h => by
    show sp (vs ++ []) H Q E
    rw [List.append_nil]
    exact h
/-- the def of the text at the module's name x -/
def IsDef (K : Fg) (mg : Str → Option Value) (x : Str) (st : Stmt) : Prop := mg x = some (.ref (He.ga K x)) ∧ ∃ fd, FunD K x x (defArgs st) (defBody st) (defScope st) [] [] (He.ga K x) fd
/-- the method m of the class named c -/
def IsMet (K : Fg) (c m q : Str) (st : Stmt) : Prop := Meth K (He.ga K c) m (He.ma K (He.ga K c) m) ∧ ∃ fd, FunD K m q (defArgs st) (defBody st) (defScope st) [] [] (He.ma K (He.ga K c) m) fd
/-- its __init__; the defaults dvs -/
def IsInit (K : Fg) (c q : Str) (st : Stmt) (dvs : List V) : Prop := Mk K (He.ga K c) (initAt K c) ∧ ∃ fd, FunD K "__init__" q (defArgs st) (defBody st) (defScope st) dvs [] (initAt K c) fd
def IsProp (K : Fg) (c m q : Str) (st : Stmt) : Prop := PropOf K (He.ga K c) m (He.ma K (He.ga K c) m) ((At.pg c m).ad K) ∧ ∃ fd, FunD K m q (defArgs st) (defBody st) (defScope st) [] [] ((At.pg c m).ad K) fd
def IsSet (K : Fg) (c m q : Str) (st : Stmt) : Prop := SetOf K (He.ga K c) m (He.ma K (He.ga K c) m) ((At.ps c m).ad K) ∧ ∃ fd, FunD K m q (defArgs st) (defBody st) (defScope st) [] [] ((At.ps c m).ad K) fd
def IsCm (K : Fg) (c m q : Str) (st : Stmt) : Prop := ClX.CRead K (He.ga K c) (.type "type") ∧ ClX.CMet K (He.ga K c) (.type "type") m (He.ma K (He.ga K c) m) ((At.cm c m).ad K) ∧ ∃ fd, FunD K m q (defArgs st) (defBody st) (defScope st) [] [] ((At.cm c m).ad K) fd
/-- an own exception without __init__ -/
def IsExc0 (K : Fg) (x : Str) (B : List Str) : Prop := PySem.W.excIn K (He.ga K x) (B.map (fun y => Value.ref (He.ga K y)) ++ He.veBase) "ValueError.__new__" = true ∧ PySem.W.keepIn K (.ref (He.ga K x)) = true ∧ PySem.W.subIn K (.ref (He.ga K x)) (.type "BaseException") = some true ∧
    PySem.W.typeIn K (.ref (He.ga K x)) = some (.type "type")
theorem IsDef.df (h : IsDef K mg x st) (H : FnA P w K mg base k (He.ga K x) ks sp) : Df P w K mg base k x ks sp := by
  obtain ⟨g, fd, F⟩ := h
  exact ⟨_, g, F.kp, H⟩
end
/-! ### more checks -/
def ckTupA (p : Fg → Addr) (vs : List He.Dv) (K : Fg) : Bool := match K.lookup (p K) with
  | some ⟨.type c, _, .seq its _, _⟩ => decide (c = "tuple") && (decide (its.size ≤ sizeLine) && He.relAll (vs.map (He.Dv.v K)) its.toList)
  | _ => false
theorem ckTupA_ok {K : Fg} {p : Fg → Addr} {vs : List He.Dv} (h : ckTupA p vs K = true) (H : Hp) : SqT K H (p K) (vs.map (He.Dv.v K)) := by
  unfold ckTupA at h
  cases q : K.lookup (p K) with
  | none =>
    rw [q] at h
    cases h
  | some o =>
    obtain ⟨oc, od, dt, osl⟩ := o
    rw [q] at h
    cases oc with
    | type c =>
      cases dt with
      | seq its n =>
        obtain ⟨h1, h2⟩ := He.ba (show (decide (c = "tuple") && (decide (its.size ≤ sizeLine) && He.relAll (vs.map (He.Dv.v K)) its.toList)) = true from h)
        obtain ⟨h3, h4⟩ := He.ba h2
        exact .inr ⟨_, its, n, q, congrArg Value.type (of_decide_eq_true h1), rfl, of_decide_eq_true h3, He.relAll_ok h4⟩
      | _ => cases h
    | _ => cases dt <;> cases h
/-- the one default of a class's __init__, an object -/
def dfAd (x : Str) (K : Fg) : Addr := He.dflAt (x, some "__init__") 0 K
theorem iterC_of {K : Fg} {C f : Addr} (h : Meth K C "__iter__" f) : IterC K C f := ⟨h.at_, h.fn⟩
theorem lenC_of {K : Fg} {C f : Addr} (h : Meth K C "__len__" f) : LenC K C f := ⟨h.at_, h.fn⟩
end Pl

end

section
set_option Elab.async false
set_option linter.all false
set_option maxRecDepth 100000
set_option maxHeartbeats 2000000
/-! PlN: the same with the arguments' shapes said. -/
namespace Pl
open PySem PySem.Spec PyProof.Rows L2 Evl
section
variable {P : Program} {w : World} {K : Fg} {mg : Str → Option Value} {base : Heap} {x qual : Str} {st : Stmt} {N ps : List Str} {k : Nat} {sp : Sp} {f C : Addr} {fd : FuncData}
theorem fna_d0 (F : FunD K x qual (defArgs st) (defBody st) (defScope st) [] [] f fd) (S : FnScope N ps (defScope st)) (len : Len ps sp)
    (hb : ∀ (kV doc pm : Value) (an : Option Addr) (cdv ct : Value) (us : List Value), us.length = ps.length → bindArgs (PySem.W.fnOf x qual (defArgs st) (defBody st) (defScope st) .none kV doc pm an cdv ct) ⟨us, []⟩ = pure (ps.zip us))
    (hw : Walked P w K mg base k N qual st f sp) : FnA P w K mg base (k + 1) f [] sp :=
  fna_def (ks := []) F S len (fun kV doc pm an cdv ct us ws l1 l2 => by
    cases ws with
    | nil =>
      rw [List.append_nil] at l1 ⊢
      exact hb kV doc pm an cdv ct us l1
    | cons a b => cases l2) hw
theorem fna_d1 {q : Str} {n : Nat} (F : FunD K x qual (defArgs st) (defBody st) (defScope st) [] [] f fd) (S : FnScope N ps (defScope st)) (len : Len ps sp) (hn : ps.length = n + 1)
    (hb : ∀ (kV doc pm : Value) (an : Option Addr) (cdv ct : Value) (us : List Value) (z : Value), us.length = n → bindArgs (PySem.W.fnOf x qual (defArgs st) (defBody st) (defScope st) .none kV doc pm an cdv ct) ⟨us, [(q, z)]⟩ = pure (ps.zip (us ++ [z])))
    (hw : Walked P w K mg base k N qual st f sp) : FnA P w K mg base (k + 1) f [q] sp :=
  fna_def (ks := [q]) F S len (fun kV doc pm an cdv ct us ws l1 l2 => by
    match ws, l2 with
    | [z], _ => exact hb kV doc pm an cdv ct us z (by rw [List.length_append, hn] at l1; simpa using l1)) hw
end
/-! ### the kinds of things -/
theorem tyI {K : Fg} {H : Hp} {i : Int} : TyX K H (.int i) (.type "int") := .base (.int _)
theorem tyT {K : Fg} {H : Hp} {a : Addr} {xs : List V} (h : SqT K H a xs) : TyX K H (.ref a) (.type "tuple") := by
  rcases h with (h | ⟨o, h⟩) | ⟨o, its, n, h1, h2, h3, h4, h5⟩
  · exact .base (.tup h)
  · exact .fTuple h
  · exact .kTuple h1 h2
theorem kit_ii {K : Fg} : PySem.W.kitOne K (.type "int") (.type "int") = some true := kit_ty (by decide +kernel)
theorem kit_ib {K : Fg} : PySem.W.kitOne K (.type "int") (.type "bool") = some false := kit_ty (by decide +kernel)
theorem kit_tt {K : Fg} : PySem.W.kitOne K (.type "tuple") (.type "tuple") = some true := kit_ty (by decide +kernel)
end Pl

end

section
set_option Elab.async false
set_option linter.all false
set_option maxRecDepth 100000
set_option maxHeartbeats 2000000
/-! PlO: plain mathematics of rows and entries; places in lists. -/
namespace Pl
open PySem PySem.Spec PyProof.Rows L2 Evl

theorem atI_int {α : Type} {xs : List α} {i : Int} {v : α} (h0 : 0 ≤ i) (h : xs[i.toNat]? = some v) : atI xs i = some v := by
  have e : i = (i.toNat : Int) := (Int.toNat_of_nonneg h0).symm
  rw [e]
  exact atI_nat h
theorem vis_get {ns : List Int} {i : Nat} {x : Int} (h : ns[i]? = some x) : (vis ns)[i]? = some (.int x) := by
  rw [List.getElem?_map, h]
  rfl
theorem vis_len (ns : List Int) : (vis ns).length = ns.length := List.length_map ..
/-- below k, and from k on -/
def Cut (ns : List Int) (b : Int) (k : Nat) : Prop := k ≤ ns.length ∧ ∀ (i : Nat) x, ns[i]? = some x → (i < k ↔ x < b)
theorem pw_get {ns : List Int} (h : ns.Pairwise (· < ·)) {i j : Nat} {x y : Int} (hi : ns[i]? = some x) (hj : ns[j]? = some y) (l : i < j) : x < y := by
  obtain ⟨a, e⟩ := List.getElem?_eq_some_iff.mp hi
  obtain ⟨b, e2⟩ := List.getElem?_eq_some_iff.mp hj
  rw [← e, ← e2]
  exact List.pairwise_iff_getElem.mp h i j a b l
/-! ### rows, entries -/
def Rwv.key (r : Rwv) : Int := r.headD 0
def Ent.key (e : Ent) : Int := match e.o with
  | some r => Rwv.key r
  | none => match e.n with
    | some r => Rwv.key r
    | none => 0
def b2 (b : Bool) : Int := if b then 1 else 0
def Ent.grow (e : Ent) : Int := b2 e.n.isSome - b2 e.o.isSome
/-- a row of the width w -/
def RowOk (w : Nat) (r : Rwv) : Prop := r.length = w
def ORowOk (w : Nat) : Option Rwv → Prop
  | none => True
  | some r => RowOk w r
/-- an entry of the width w -/
structure EntOk (w : Nat) (e : Ent) : Prop where
  p : 0 ≤ e.p
  o : ORowOk w e.o
  n : ORowOk w e.n
  k : match e.o, e.n with
    | none, none => False
    | some a, some b => Rwv.key a = Rwv.key b ∧ a ≠ b
    | _, _ => True
/-- the gap between two entries that follow each other -/
def gapE (e f : Ent) : Int := f.p - e.p - b2 e.o.isSome
def InOrd (e f : Ent) : Prop := 0 ≤ gapE e f ∧ gapE e f < f.key - e.key
instance (e f : Ent) : Decidable (InOrd e f) := inferInstanceAs (Decidable (_ ∧ _))
/-- each two neighbours -/
def Chain {α : Type} (R : α → α → Prop) : List α → Prop
  | [] => True
  | [_] => True
  | a :: b :: l => R a b ∧ Chain R (b :: l)
theorem Chain.get {α : Type} {R : α → α → Prop} : ∀ {l : List α}, Chain R l → ∀ {i : Nat} {a b : α}, l[i]? = some a → l[i + 1]? = some b → R a b
  | [], _, i, a, b, h, _ => by simp at h
  | [x], _, i, a, b, _, h => by simp at h
  | x :: y :: l, c, 0, a, b, h, h2 => by
    have e := Option.some.inj h
    have e2 := Option.some.inj h2
    subst e e2
    exact c.1
  | x :: y :: l, c, i + 1, a, b, h, h2 => Chain.get (l := y :: l) c.2 (i := i) (by simpa using h) (by simpa using h2)
/-- the entries of a layer -/
structure EntsOk (w : Nat) (es : List Ent) : Prop where
  all : ∀ e ∈ es, EntOk w e
  ord : Chain InOrd es
structure RowsOk (w : Nat) (rs : List Rwv) : Prop where
  all : ∀ r ∈ rs, RowOk w r
  ord : (rs.map Rwv.key).Pairwise (· < ·)
theorem InOrd.lt {e f : Ent} (h : InOrd e f) : e.key < f.key := by
  have := h.1
  have := h.2
  omega
theorem chain_keys : ∀ {es : List Ent}, Chain InOrd es → (es.map Ent.key).Pairwise (· < ·)
  | [], _ => .nil
  | [x], _ => by simp
  | x :: y :: l, c => by
    have ih := chain_keys (es := y :: l) c.2
    have h1 := c.1.lt
    rw [List.map_cons, List.pairwise_cons]
    refine ⟨fun z hz => ?_, ih⟩
    rw [List.map_cons, List.mem_cons] at hz
    rcases hz with e | hz
    · rw [e]
      exact h1
    · rw [List.map_cons, List.pairwise_cons] at ih
      have := ih.1 z hz
      omega
theorem row_head {w : Nat} {r : Rwv} (h : RowOk w r) (hw : 1 ≤ w) : r[0]? = some r.key := by
  cases r with
  | nil =>
    have : (0 : Nat) = w := h
    omega
  | cons a b => rfl
end Pl

end

section
set_option Elab.async false
set_option linter.all false
set_option maxRecDepth 100000
set_option maxHeartbeats 2000000
/-! PlP: the same over a tuple. -/
namespace Pl
open PySem PySem.Spec PyProof.Rows L2 Evl
/-! ### a comprehension that only adds: its items are told by R, which stays -/
section
variable {K : Fg} {a D : Addr} {xs : List V} {σ : L2.St} {H1 : Hp} {g : TG} {te : TE} {vs : List Nat} {R : Nat → V → Hp → Prop} {Qd : Hp → Prop}
/-- the turn's end behind such an element -/
theorem lc_allT (hx : SqT K H1 a xs) (hz : xs.length < sizeLine) (hD : H1 D = none) (hR : ∀ i y H H', ExN H H' → R i y H → R i y H')
    (hs : ∀ i x H2 (Q : VK), xs[i]? = some x → Ex H1 H2 → (∀ y H3, Ex H2 H3 → R i y H3 → Q y H3) → g x (wipe σ vs) H2 fun σ2 H3 => wipe σ2 vs = wipe σ vs ∧ te σ2 H3 Q)
    (q : ∀ ys H2, Ex H1 H2 → H2 D = some (.lst ys) → ys.length = xs.length → (∀ (i : Nat) y, ys[i]? = some y → R i y H2) → Qd H2) :
    ∃ W : Nat → Nat → Hp → Prop, (∃ m, W 0 m (upd H1 D (.lst []))) ∧ ∀ i m H, W i m H →
      ((Itt K a).stop i H ∧ Qd H) ∨ ((Itt K a).go i H ∧ ∃ Nx : Hp → Prop, (∀ H', Nx H' → ∃ m', m' < m ∧ W (i + 1) m' H') ∧ ∀ x H', (Itt K a).yld i H x H' → g x (wipe σ vs) H' fun σ2 H2 => wipe σ2 vs = wipe σ vs ∧ tYes σ2 H2 fun b H3 =>
        if b = true then te σ2 H3 fun y H4 => ∃ acc, H4 D = some (.lst acc) ∧ acc.length < sizeLine ∧ Nx (upd H4 D (.lst (acc ++ [y]))) else Nx H3) := by
  refine lc_tup (xs := xs) (LcP H1 D R) ⟨Ex.new hD, [], upd_same, rfl, fun k y e => by simp at e⟩ (fun i H _ p => ex_t p.1 hx) (fun i x H hi p => ?_) (fun H p => ?_)
  · obtain ⟨e1, ys, hy, hl, hr⟩ := p
    have hlt := (List.getElem?_eq_some_iff.mp hi).1
    have z := hs i x H (fun y H4 => ∃ acc, H4 D = some (.lst acc) ∧ acc.length < sizeLine ∧ LcP H1 D R (i + 1) (upd H4 D (.lst (acc ++ [y])))) hi e1 fun y H3 e2 ry => by
      refine ⟨ys, e2 _ _ hy, by omega, Ex.mut (e1.trans e2) hD, ys ++ [y], upd_same, by rw [List.length_append, hl]; rfl, fun k z hk => ?_⟩
      have en : ExN H3 (upd H3 D (.lst (ys ++ [y]))) := ExN.list (e2 _ _ hy)
      by_cases hk2 : k < ys.length
      · rw [List.getElem?_append_left hk2] at hk
        exact hR _ _ _ _ ((ExN.of e2).trans en) (hr k z hk)
      · have ek : k = ys.length := by
          have := (List.getElem?_eq_some_iff.mp hk).1
          rw [List.length_append] at this
          simp at this
          omega
        subst ek
        rw [List.getElem?_append_right (Nat.le_refl _)] at hk
        have ez : y = z := by simpa using hk
        subst ez
        rw [hl]
        exact hR _ _ _ _ en ry
    exact z
  · obtain ⟨e1, ys, hy, hl, hr⟩ := p
    exact q ys H e1 hy hl hr
/-- the target a name -/
theorem lc_allNT {j : Nat} (hx : SqT K H1 a xs) (hz : xs.length < sizeLine) (hD : H1 D = none) (hR : ∀ i y H H', ExN H H' → R i y H → R i y H') (hw : ∀ x, wipe ((wipe σ vs).set j (some x)) vs = wipe σ vs)
    (hs : ∀ i x H2 (Q : VK), xs[i]? = some x → Ex H1 H2 → (∀ y H3, Ex H2 H3 → R i y H3 → Q y H3) → te ((wipe σ vs).set j (some x)) H2 Q)
    (q : ∀ ys H2, Ex H1 H2 → H2 D = some (.lst ys) → ys.length = xs.length → (∀ (i : Nat) y, ys[i]? = some y → R i y H2) → Qd H2) :
    ∃ W : Nat → Nat → Hp → Prop, (∃ m, W 0 m (upd H1 D (.lst []))) ∧ ∀ i m H, W i m H →
      ((Itt K a).stop i H ∧ Qd H) ∨ ((Itt K a).go i H ∧ ∃ Nx : Hp → Prop, (∀ H', Nx H' → ∃ m', m' < m ∧ W (i + 1) m' H') ∧ ∀ x H', (Itt K a).yld i H x H' → gName j x (wipe σ vs) H' fun σ2 H2 => wipe σ2 vs = wipe σ vs ∧ tYes σ2 H2 fun b H3 =>
        if b = true then te σ2 H3 fun y H4 => ∃ acc, H4 D = some (.lst acc) ∧ acc.length < sizeLine ∧ Nx (upd H4 D (.lst (acc ++ [y]))) else Nx H3) :=
  lc_allT hx hz hD hR (fun i x H2 Q hi e k => ⟨hw x, hs i x H2 Q hi e k⟩) q
/-- .. the items are functions of the list's: the new list is known -/
theorem lc_mapNT {j : Nat} {ys : List V} (hx : SqT K H1 a xs) (hz : xs.length < sizeLine) (hD : H1 D = none) (hl : ys.length = xs.length) (hw : ∀ x, wipe ((wipe σ vs).set j (some x)) vs = wipe σ vs)
    (hs : ∀ (i : Nat) x y H2 (Q : VK), xs[i]? = some x → ys[i]? = some y → Ex H1 H2 → (∀ H3, Ex H2 H3 → Q y H3) → te ((wipe σ vs).set j (some x)) H2 Q)
    (q : ∀ H2, Ex H1 H2 → H2 D = some (.lst ys) → Qd H2) :
    ∃ W : Nat → Nat → Hp → Prop, (∃ m, W 0 m (upd H1 D (.lst []))) ∧ ∀ i m H, W i m H →
      ((Itt K a).stop i H ∧ Qd H) ∨ ((Itt K a).go i H ∧ ∃ Nx : Hp → Prop, (∀ H', Nx H' → ∃ m', m' < m ∧ W (i + 1) m' H') ∧ ∀ x H', (Itt K a).yld i H x H' → gName j x (wipe σ vs) H' fun σ2 H2 => wipe σ2 vs = wipe σ vs ∧ tYes σ2 H2 fun b H3 =>
        if b = true then te σ2 H3 fun y H4 => ∃ acc, H4 D = some (.lst acc) ∧ acc.length < sizeLine ∧ Nx (upd H4 D (.lst (acc ++ [y]))) else Nx H3) :=
  lc_allNT (R := fun i y _ => ys[i]? = some y) hx hz hD (fun _ _ _ _ _ h => h) hw (fun i x H2 Q hi e k => by
    have hlt := (List.getElem?_eq_some_iff.mp hi).1
    exact hs i x (ys[i]'(by omega)) H2 Q hi (by simp) e fun H3 e3 => k _ H3 e3 (by simp)) fun zs H2 e hy hl2 hr => by
      have ez : zs = ys := by
        refine List.ext_getElem? fun i => ?_
        by_cases hi : i < zs.length
        · exact (List.getElem?_eq_getElem hi).trans (hr i _ (List.getElem?_eq_getElem hi)).symm
        · rw [List.getElem?_eq_none (by omega), List.getElem?_eq_none (by omega)]
      rw [ez] at hy
      exact q H2 e hy
end
end Pl

end

section
set_option Elab.async false
set_option linter.all false
set_option maxRecDepth 100000
set_option maxHeartbeats 2000000
/-! PlQ: rows as data. -/
namespace Pl
open PySem PySem.Spec PyProof.Rows L2 Evl

def rowD (r : Rwv) : PyData := .tuple (r.map .int)
def orowD : Option Rwv → PyData
  | none => .none
  | some r => rowD r
theorem ints_eqv : ∀ r s : Rwv, PyData.eqvAll (r.map .int) (s.map .int) = decide (r = s)
  | [], [] => rfl
  | [], _ :: _ => rfl
  | _ :: _, [] => rfl
  | a :: r, b :: s => by
    have ih := ints_eqv r s
    show (a == b && PyData.eqvAll (r.map .int) (s.map .int)) = decide (a :: r = b :: s)
    rw [ih]
    by_cases h1 : a = b
    · subst h1
      by_cases h2 : r = s
      · subst h2
        simp
      · simp [h2]
    · simp [h1]
theorem orowD_eqv (a b : Option Rwv) : PyData.eqv (orowD a) (orowD b) = decide (a = b) := by
  cases a with
  | none =>
    cases b with
    | none => rfl
    | some b => rfl
  | some a =>
    cases b with
    | none => rfl
    | some b =>
      show PyData.eqvAll (a.map .int) (b.map .int) = _
      rw [ints_eqv]
      by_cases h : a = b <;> simp [h]
theorem ints_depth : ∀ r : Rwv, PyData.depthAll (r.map .int) ≤ 1
  | [] => by simp [PyData.depthAll]
  | a :: r => by
    have ih := ints_depth r
    simp only [List.map_cons, PyData.depthAll, PyData.depth]
    omega
theorem ints_lay : ∀ r : Rwv, PyData.canLayAll0 (r.map .int) = true
  | [] => rfl
  | a :: r => by
    have ih := ints_lay r
    simp only [List.map_cons, PyData.canLayAll0, PyData.canLay0, Bool.true_and]
    exact ih
theorem rowD_depth (r : Rwv) : (rowD r).depth ≤ 2 := by
  have h := ints_depth r
  simp only [rowD, PyData.depth]
  omega
theorem orowD_depth (r : Option Rwv) : (orowD r).depth ≤ 2 := by
  cases r with
  | none => simp [orowD, PyData.depth]
  | some r => exact rowD_depth r
theorem rowD_lay (r : Rwv) : (rowD r).canLay0 = true := by
  simp only [rowD, PyData.canLay0]
  exact ints_lay r
theorem orowD_lay (r : Option Rwv) : (orowD r).canLay0 = true := by
  cases r with
  | none => rfl
  | some r => exact rowD_lay r
theorem orowD_shaped (r : Option Rwv) : SeqAt.shaped (orowD r) = true := by
  have h := orowD_depth r
  show ((orowD r).canLay0 && decide ((orowD r).depth ≤ 64)) = true
  rw [Bool.and_eq_true]
  exact ⟨orowD_lay r, decide_eq_true (by omega)⟩
section
variable {K : Fg} {H : Hp} {v : V}
theorem dp_ints : ∀ r : Rwv, DpAll K H (vis r) (r.map .int)
  | [] => .nil
  | a :: r => .cons (.int a) (dp_ints r)
theorem VR.dp {r : Rwv} (h : VR K H v r) : Dp K H v (rowD r) := by
  obtain ⟨a, e, h⟩ := h
  subst e
  exact .tup h (dp_ints r)
theorem VO.dp {r : Option Rwv} (h : VO K H v r) : Dp K H v (orowD r) := by
  cases r with
  | none =>
    have e : v = .non := h
    subst e
    exact .non
  | some r => exact VR.dp h
/-- ==, != of rows, None among them -/
theorem rEq_rows {x y : V} {a b : Option Rwv} {Q : VK} (ha : VO K H x a) (hb : VO K H y b) (q : Q (.bl (decide (a = b))) H) : rEqD K x y H Q :=
  ⟨_, _, ha.dp, hb.dp, orowD_shaped a, orowD_shaped b, by rw [orowD_eqv]; exact q⟩
theorem rNe_rows {x y : V} {a b : Option Rwv} {Q : VK} (ha : VO K H x a) (hb : VO K H y b) (q : Q (.bl (!decide (a = b))) H) : rNeD K x y H Q :=
  ⟨_, _, ha.dp, hb.dp, orowD_shaped a, orowD_shaped b, by rw [orowD_eqv]; exact q⟩
end
end Pl

end

section
set_option Elab.async false
set_option linter.all false
set_option maxRecDepth 100000
set_option maxHeartbeats 2000000
/-! PlR: small words for the readings. -/
namespace Pl
open PySem PySem.Spec PyProof.Rows L2 Evl

theorem take_snoc {α : Type} {xs : List α} {i : Nat} {x : α} (h : xs[i]? = some x) : xs.take (i + 1) = xs.take i ++ [x] := by
  rw [List.take_add_one, h]
  rfl
theorem atI0 {α : Type} {xs : List α} {v : α} (h : xs[0]? = some v) : atI xs 0 = some v := atI_int (i := 0) (by decide) h
theorem atI1 {α : Type} {xs : List α} {v : α} (h : xs[1]? = some v) : atI xs 1 = some v := atI_int (i := 1) (by decide) h
theorem atI2 {α : Type} {xs : List α} {v : α} (h : xs[2]? = some v) : atI xs 2 = some v := atI_int (i := 2) (by decide) h
/-- the last of those taken -/
theorem atI_take {α : Type} {xs : List α} {i : Nat} {v : α} (h : xs[i]? = some v) : atI (xs.take (i + 1)) (-1) = some v := by
  rw [take_snoc h]
  exact atI_last _ _
theorem sz2 : 2 ≤ sizeLine := by rw [sizeLine_eq]; decide
theorem sz3 : 3 ≤ sizeLine := by rw [sizeLine_eq]; decide
theorem sz4 : 4 ≤ sizeLine := by rw [sizeLine_eq]; decide
theorem sz1 : 1 ≤ sizeLine := by rw [sizeLine_eq]; decide
theorem szK {n : Nat} (h : n ≤ 100000) : n < sizeLine := by rw [sizeLine_eq]; omega
/-- a test that has its answer -/
theorem ifT {c : Bool} {A B : Prop} (hc : c = true) (h : A) : if c = true then A else B := by
  rw [if_pos hc]
  exact h
theorem ifF {c : Bool} {A B : Prop} (hc : c = false) (h : B) : if c = true then A else B := by
  rw [hc, if_neg Bool.false_ne_true]
  exact h
theorem VE.at0 {K : Fg} {H : Hp} {v : V} {e : Ent} (h : VE K H v e) : ∃ a x y, v = .ref a ∧ SqT K H a [.int e.p, x, y] ∧ VO K H x e.o ∧ VO K H y e.n := h
theorem b2_not (b : Bool) : (if (!b) = true then (1 : Int) else 0) = b2 (!b) := by cases b <;> rfl
theorem row0 {w : Nat} {r : Rwv} (h : RowOk w r) (hw : 1 ≤ w) : (vis r)[0]? = some (.int r.key) := vis_get (row_head h hw)
end Pl

end

section
set_option Elab.async false
set_option linter.all false
set_option maxRecDepth 100000
set_option maxHeartbeats 2000000
/-! PlS: dict and set comprehensions over a list, keyed by numbers; sorted keys. -/
namespace Pl
open PySem PySem.Spec PyProof.Rows L2 Evl

theorem dc_list {K : PySem.W.Frag} {a : Addr} {xs : List V} {g : TG} {tt : TT} {tk tv : TE} {vs : List Nat} {σ : L2.St} {H1 : Hp} {D : Addr} {Qd : Hp → Prop} (Pv : Nat → Hp → Prop) (h0 : Pv 0 (upd H1 D (.dK []))) (hl : ∀ i H, i ≤ xs.length → Pv i H → SqL K H a xs)
    (hs : ∀ i x H, xs[i]? = some x → Pv i H → g x (wipe σ vs) H fun σ2 H2 => wipe σ2 vs = wipe σ vs ∧ tt σ2 H2 fun b H3 =>
      if b = true then tk σ2 H3 fun y H4 => tv σ2 H4 fun z H5 => ∃ kvs k, y = kV k ∧ H5 D = some (.dK kvs) ∧ kvs.length < sizeLine ∧ Pv (i + 1) (upd H5 D (.dK (putK kvs k z))) else Pv (i + 1) H3) (hd : ∀ H, Pv xs.length H → Qd H) :
    ∃ W : Nat → Nat → Hp → Prop, (∃ m, W 0 m (upd H1 D (.dK []))) ∧ ∀ i m H, W i m H →
      ((Itl K a).stop i H ∧ Qd H) ∨ ((Itl K a).go i H ∧ ∃ Nx : Hp → Prop, (∀ H', Nx H' → ∃ m', m' < m ∧ W (i + 1) m' H') ∧ ∀ x H', (Itl K a).yld i H x H' → g x (wipe σ vs) H' fun σ2 H2 => wipe σ2 vs = wipe σ vs ∧ tt σ2 H2 fun b H3 =>
        if b = true then tk σ2 H3 fun y H4 => tv σ2 H4 fun z H5 => ∃ kvs k, y = kV k ∧ H5 D = some (.dK kvs) ∧ kvs.length < sizeLine ∧ Nx (upd H5 D (.dK (putK kvs k z))) else Nx H3) := by
  refine ⟨fun i m H => m = xs.length - i ∧ i ≤ xs.length ∧ Pv i H, ⟨xs.length, by simp, Nat.zero_le _, h0⟩, ?_⟩
  rintro i m H ⟨rfl, hi, p⟩
  have q := hl i H hi p
  by_cases hlt : i < xs.length
  · refine .inr ⟨⟨xs, xs[i], q, by simp [hlt]⟩, Pv (i + 1), fun H' p' => ⟨xs.length - (i + 1), by omega, rfl, hlt, p'⟩, fun x H' y => ?_⟩
    obtain ⟨e, y⟩ := y
    subst e
    exact hs i x _ (y xs q) p
  · have e : i = xs.length := by omega
    subst e
    exact .inl ⟨⟨xs, q, Nat.le_refl _⟩, hd H p⟩
/-- numbers to values, in order -/
def dkOf (ks : List Int) (xs : List V) : List (Key × V) := (ks.zip xs).map fun p => (Sum.inl p.1, p.2)
theorem dk_snoc {ks : List Int} {xs : List V} {i : Nat} {k : Int} {x : V} (hk : ks[i]? = some k) (hx : xs[i]? = some x) : dkOf (ks.take (i + 1)) (xs.take (i + 1)) = dkOf (ks.take i) (xs.take i) ++ [(Sum.inl k, x)] := by
  unfold dkOf
  rw [take_snoc hk, take_snoc hx, List.zip_append, List.map_append]
  · rfl
  · have h1 := (List.getElem?_eq_some_iff.mp hk).1
    have h2 := (List.getElem?_eq_some_iff.mp hx).1
    rw [List.length_take, List.length_take]
    omega
theorem dk_none : ∀ {ks : List Int} {xs : List V} {k : Int}, k ∉ ks → valV (dkOf ks xs) (Sum.inl k) = none
  | [], _, k, _ => rfl
  | _ :: _, [], k, _ => rfl
  | a :: ks, x :: xs, k, h => by
    show valV ((Sum.inl a, x) :: dkOf ks xs) (Sum.inl k) = none
    rw [valV_neg (fun z => h (by injection z with z; rw [z]; exact List.mem_cons_self))]
    exact dk_none fun z => h (List.mem_cons_of_mem _ z)
theorem dk_some : ∀ {ks : List Int} {xs : List V} {i : Nat} {k : Int} {x : V}, ks.Pairwise (· < ·) → ks[i]? = some k → xs[i]? = some x → valV (dkOf ks xs) (Sum.inl k) = some x
  | [], _, i, k, x, _, h, _ => by simp at h
  | _ :: _, [], i, k, x, _, _, h => by simp at h
  | a :: ks, y :: xs, 0, k, x, _, h, h2 => by
    have e := Option.some.inj h
    have e2 := Option.some.inj h2
    subst e e2
    exact valV_pos (p := (Sum.inl a, y)) rfl
  | a :: ks, y :: xs, i + 1, k, x, hp, h, h2 => by
    have hk : ks[i]? = some k := by simpa using h
    have hlt : a < k := (List.pairwise_cons.mp hp).1 k (List.mem_of_getElem? hk)
    show valV ((Sum.inl a, y) :: dkOf ks xs) (Sum.inl k) = some x
    rw [valV_neg (fun z => by injection z with z; omega)]
    exact dk_some (List.pairwise_cons.mp hp).2 hk (by simpa using h2)
section
variable {K : Fg} {a D : Addr} {xs : List V} {ks : List Int} {σ : L2.St} {H1 : Hp} {tk tv : TE} {vs : List Nat} {Qd : Hp → Prop} {j : Nat}
/-- {key: x for x in xs}, the keys rise -/
theorem dc_keys (hx : SqL K H1 a xs) (hz : xs.length < sizeLine) (hD : H1 D = none) (hl : ks.length = xs.length) (hp : ks.Pairwise (· < ·)) (hw : ∀ x, wipe ((wipe σ vs).set j (some x)) vs = wipe σ vs)
    (hs : ∀ (i : Nat) x k H2 (Q : VK), xs[i]? = some x → ks[i]? = some k → Ex H1 H2 → (∀ H3, Ex H2 H3 → Q (.int k) H3) → tk ((wipe σ vs).set j (some x)) H2 Q)
    (hv : ∀ (i : Nat) x H2 (Q : VK), xs[i]? = some x → Ex H1 H2 → Q x H2 → tv ((wipe σ vs).set j (some x)) H2 Q) (q : ∀ H2, Ex H1 H2 → H2 D = some (.dK (dkOf ks xs)) → Qd H2) :
    ∃ W : Nat → Nat → Hp → Prop, (∃ m, W 0 m (upd H1 D (.dK []))) ∧ ∀ i m H, W i m H →
      ((Itl K a).stop i H ∧ Qd H) ∨ ((Itl K a).go i H ∧ ∃ Nx : Hp → Prop, (∀ H', Nx H' → ∃ m', m' < m ∧ W (i + 1) m' H') ∧ ∀ x H', (Itl K a).yld i H x H' → gName j x (wipe σ vs) H' fun σ2 H2 => wipe σ2 vs = wipe σ vs ∧ tYes σ2 H2 fun b H3 =>
        if b = true then tk σ2 H3 fun y H4 => tv σ2 H4 fun z H5 => ∃ kvs k, y = kV k ∧ H5 D = some (.dK kvs) ∧ kvs.length < sizeLine ∧ Nx (upd H5 D (.dK (putK kvs k z))) else Nx H3) := by
  refine dc_list (xs := xs) (fun i H => Ex H1 H ∧ H D = some (.dK (dkOf (ks.take i) (xs.take i)))) ⟨Ex.new hD, by rw [upd_same]; rfl⟩ (fun i H _ p => ex_l p.1 hx) (fun i x H hi p => ?_) (fun H p => ?_)
  · have hlt := (List.getElem?_eq_some_iff.mp hi).1
    have hk : ks[i]? = some (ks[i]'(by omega)) := List.getElem?_eq_getElem (by omega)
    refine ⟨hw x, hs i x _ H _ hi hk p.1 fun H3 e3 => hv i x H3 _ hi (p.1.trans e3) ⟨_, Sum.inl (ks[i]'(by omega)), rfl, e3 _ _ p.2, ?_, Ex.mut (p.1.trans e3) hD, ?_⟩⟩
    · unfold dkOf
      rw [List.length_map, List.length_zip, List.length_take, List.length_take]
      omega
    · rw [upd_same, dk_snoc hk hi]
      have hn : (ks[i]'(by omega)) ∉ ks.take i := fun z => by
        obtain ⟨m, hm, em⟩ := List.mem_iff_getElem.mp z
        rw [List.length_take] at hm
        rw [List.getElem_take] at em
        have := List.pairwise_iff_getElem.mp hp m i (by omega) (by omega) (by omega)
        omega
      have ha : ((dkOf (ks.take i) (xs.take i)).any fun kv => decide (kv.1 = Sum.inl (ks[i]'(by omega)))) = false := by
        rw [valV_any, dk_none hn]
        rfl
      unfold putK
      rw [if_neg (by rw [ha]; decide)]
  · rw [List.take_length, ← hl, List.take_length] at p
    exact q H p.1 p.2
/-- {key for x in xs} -/
theorem sc_keys {w : World} {te : TE} (hx : SqL K H1 a xs) (hz : xs.length < 1000) (hD : H1 D = none) (hl : ks.length = xs.length) (hw : ∀ x, wipe ((wipe σ vs).set j (some x)) vs = wipe σ vs)
    (hs : ∀ (i : Nat) x k H2 (Q : VK), xs[i]? = some x → ks[i]? = some k → Ex H1 H2 → (∀ H3, Ex H2 H3 → Q (.int k) H3) → te ((wipe σ vs).set j (some x)) H2 Q)
    (q : ∀ H2 S n, Ex H1 H2 → H2 D = some (SetO w D S n) → (∀ k : Int, S k = true ↔ k ∈ ks) → n ≤ ks.length → Qd H2) :
    ∃ W : Nat → Nat → Hp → Prop, (∃ m, W 0 m (upd H1 D (SetO w D (fun _ => false) 0))) ∧
      ∀ i m H, W i m H → ((Itl K a).stop i H ∧ Qd H) ∨ ((Itl K a).go i H ∧ ∃ N : Hp → Prop, (∀ H', N H' → ∃ m', m' < m ∧ W (i + 1) m' H') ∧ ∀ x H', (Itl K a).yld i H x H' → turnI w (gName j) tYes te vs σ D N x H') := by
  let Pv : Nat → Hp → Prop := fun i H => Ex H1 H ∧ ∃ S n, H D = some (SetO w D S n) ∧ (∀ k : Int, S k = true ↔ k ∈ ks.take i) ∧ n ≤ i
  refine ⟨fun i m H => m = xs.length - i ∧ i ≤ xs.length ∧ Pv i H, ⟨xs.length, by simp, Nat.zero_le _, Ex.new hD, _, 0, upd_same, fun k => by simp, Nat.le_refl _⟩, ?_⟩
  rintro i m H ⟨rfl, hi, p⟩
  have hq := ex_l p.1 hx
  by_cases hlt : i < xs.length
  · refine .inr ⟨⟨xs, xs[i], hq, by simp [hlt]⟩, Pv (i + 1), fun H' p' => ⟨xs.length - (i + 1), by omega, rfl, hlt, p'⟩, fun x H' y => ?_⟩
    obtain ⟨e, y⟩ := y
    subst e
    have hxi := y xs hq
    have hk : ks[i]? = some (ks[i]'(by omega)) := List.getElem?_eq_getElem (by omega)
    obtain ⟨e1, S, n, hS, hm, hn⟩ := p
    refine ⟨hw x, hs i x _ _ _ hxi hk e1 fun H3 e3 => ⟨_, S, n, rfl, e3 _ _ hS, ?_, Ex.mut (e1.trans e3) hD, _, _, upd_same, fun k => ?_, ?_⟩⟩
    · have : (2000 : Nat) ≤ scanBound := by decide
      omega
    · rw [Bool.or_eq_true, decide_eq_true_iff, hm k, take_snoc hk, List.mem_append, List.mem_singleton]
    · split <;> omega
  · have e : i = xs.length := by omega
    subst e
    obtain ⟨e1, S, n, hS, hm, hn⟩ := p
    exact .inl ⟨⟨xs, hq, Nat.le_refl _⟩, q H S n e1 hS (fun k => by rw [hm k, ← hl, List.take_length]) (by omega)⟩
end
/-! ### sorted, without repetition -/
def insK (k : Int) : List Int → List Int
  | [] => [k]
  | a :: l => if k < a then k :: a :: l else if k = a then a :: l else a :: insK k l
theorem mem_insK {k x : Int} : ∀ {l : List Int}, x ∈ insK k l ↔ x = k ∨ x ∈ l
  | [] => by simp [insK]
  | a :: l => by
    have ih := mem_insK (k := k) (x := x) (l := l)
    unfold insK
    split
    · simp
    · split
      · rename_i h
        subst h
        simp
      · rw [List.mem_cons, ih, List.mem_cons]
        constructor
        · rintro (h | h | h)
          · exact .inr (.inl h)
          · exact .inl h
          · exact .inr (.inr h)
        · rintro (h | h | h)
          · exact .inr (.inl h)
          · exact .inl h
          · exact .inr (.inr h)
theorem pw_insK {k : Int} : ∀ {l : List Int}, l.Pairwise (· < ·) → (insK k l).Pairwise (· < ·)
  | [], _ => by simp [insK]
  | a :: l, h => by
    obtain ⟨h1, h2⟩ := List.pairwise_cons.mp h
    have ih := pw_insK (k := k) h2
    unfold insK
    split
    · rename_i h3
      refine List.pairwise_cons.mpr ⟨fun x hx => ?_, h⟩
      rcases List.mem_cons.mp hx with e | e
      · rw [e]; exact h3
      · have := h1 x e
        omega
    · split
      · exact h
      · rename_i h3 h4
        refine List.pairwise_cons.mpr ⟨fun x hx => ?_, ih⟩
        rcases mem_insK.mp hx with e | e
        · rw [e]; omega
        · exact h1 x e
def keysU (l : List Int) : List Int := l.foldr insK []
theorem mem_keysU {x : Int} : ∀ {l : List Int}, x ∈ keysU l ↔ x ∈ l
  | [] => by simp [keysU]
  | a :: l => by
    show x ∈ insK a (keysU l) ↔ _
    rw [mem_insK, mem_keysU, List.mem_cons]
theorem pw_keysU : ∀ {l : List Int}, (keysU l).Pairwise (· < ·)
  | [] => .nil
  | a :: l => pw_insK (pw_keysU (l := l))
/-- two rising lists of the same numbers -/
theorem rise_eq : ∀ {l m : List Int}, l.Pairwise (· < ·) → m.Pairwise (· < ·) → (∀ x, x ∈ l ↔ x ∈ m) → l = m
  | [], [], _, _, _ => rfl
  | [], b :: m, _, _, h => absurd ((h b).mpr List.mem_cons_self) (by simp)
  | a :: l, [], _, _, h => absurd ((h a).mp List.mem_cons_self) (by simp)
  | a :: l, b :: m, h1, h2, h => by
    obtain ⟨p1, p2⟩ := List.pairwise_cons.mp h1
    obtain ⟨q1, q2⟩ := List.pairwise_cons.mp h2
    have e : a = b := by
      have ha := (h a).mp List.mem_cons_self
      have hb := (h b).mpr List.mem_cons_self
      rcases List.mem_cons.mp ha with e | ha
      · exact e
      · rcases List.mem_cons.mp hb with e | hb
        · exact e.symm
        · have := q1 a ha
          have := p1 b hb
          omega
    subst e
    rw [rise_eq p2 q2 fun x => ?_]
    constructor
    · intro hx
      rcases List.mem_cons.mp ((h x).mp (List.mem_cons_of_mem _ hx)) with e | z
      · have := p1 x hx
        omega
      · exact z
    · intro hx
      rcases List.mem_cons.mp ((h x).mpr (List.mem_cons_of_mem _ hx)) with e | z
      · have := q1 x hx
        omega
      · exact z
theorem keysU_rise {l m : List Int} (h1 : m.Pairwise (· < ·)) (h2 : ∀ x, x ∈ m ↔ x ∈ l) : m = keysU l := rise_eq h1 pw_keysU fun x => by rw [h2, mem_keysU]
end Pl

end

section
set_option Elab.async false
set_option linter.all false
set_option maxRecDepth 100000
set_option maxHeartbeats 2000000
/-! PlT: layers turned and linked, in plain Lean. -/
namespace Pl
open PySem PySem.Spec PyProof.Rows L2 Evl

def turnG (g : Int) : List Ent → List Ent
  | [] => []
  | e :: r => ⟨e.p + g, e.n, e.o⟩ :: turnG (g + e.grow) r
def turnedM (es : List Ent) : List Ent := turnG 0 es
def gsum (es : List Ent) (i : Nat) : Int := ((es.take i).map Ent.grow).sum
theorem gsum_succ {es : List Ent} {i : Nat} {e : Ent} (h : es[i]? = some e) : gsum es (i + 1) = gsum es i + e.grow := by
  unfold gsum
  rw [take_snoc h, List.map_append, List.sum_append]
  simp
theorem turnG_len : ∀ {g : Int} {es : List Ent}, (turnG g es).length = es.length
  | _, [] => rfl
  | g, e :: r => by
    show (turnG _ r).length + 1 = r.length + 1
    rw [turnG_len]
theorem turnG_get : ∀ {es : List Ent} {g : Int} {i : Nat} {e : Ent}, es[i]? = some e → (turnG g es)[i]? = some ⟨e.p + (g + gsum es i), e.n, e.o⟩
  | [], _, i, e, h => by simp at h
  | a :: r, g, 0, e, h => by
    have ea := Option.some.inj h
    subst ea
    show some _ = some _
    unfold gsum
    simp
  | a :: r, g, i + 1, e, h => by
    have ih := turnG_get (es := r) (g := g + a.grow) (i := i) (e := e) (by simpa using h)
    show (turnG (g + a.grow) r)[i]? = _
    rw [ih]
    unfold gsum
    rw [List.take_succ_cons, List.map_cons, List.sum_cons]
    congr 2
    omega
/-! ### links -/
structure Lnk where
  p : Int
  a : Option Rwv
  b : Option Rwv
  c : Option Rwv
def VL (K : Fg) (H : Hp) (v : V) (L : Lnk) : Prop := ∃ t x y z, v = .ref t ∧ SqT K H t [.int L.p, x, y, z] ∧ VO K H x L.a ∧ VO K H y L.b ∧ VO K H z L.c
theorem VL.ex {K : Fg} {H H' : Hp} {v : V} {L : Lnk} (e : ExN H H') (h : VL K H v L) : VL K H' v L := by
  obtain ⟨t, x, y, z, ev, h, h1, h2, h3⟩ := h
  exact ⟨t, x, y, z, ev, exn_t e h, h1.ex e, h2.ex e, h3.ex e⟩
/-- an entry or none -/
def VOE (K : Fg) (H : Hp) (v : V) : Option Ent → Prop
  | none => v = .non
  | some e => VE K H v e
theorem VOE.isN {K : Fg} {H : Hp} {v : V} {r : Option Ent} (h : VOE K H v r) : decide (v = V.non) = r.isNone := by
  cases r with
  | none =>
    rw [show v = V.non from h]
    simp
  | some r =>
    obtain ⟨a, x, y, ea, _⟩ := h
    rw [ea]
    simp
theorem VOE.ex {K : Fg} {H H' : Hp} {v : V} {r : Option Ent} (e : ExN H H') (h : VOE K H v r) : VOE K H' v r := by
  cases r with
  | none => exact h
  | some r => exact VE.ex e h
def linkM : Option Ent → Option Ent → Int → Option Lnk
  | none, none, _ => none
  | some e, none, _ => some ⟨e.p, e.o, e.n, e.n⟩
  | none, some f, g => some ⟨f.p - g, f.o, f.o, f.n⟩
  | some e, some f, g => if e.n ≠ f.o ∨ e.p + g ≠ f.p then none else some ⟨e.p, e.o, f.o, f.n⟩
def findE (es : List Ent) (k : Int) : Option Ent := es.find? fun e => decide (e.key = k)
def gapL (P L : Lnk) : Int := L.p - P.p - b2 P.a.isSome
def gapBad : Option (Int × Lnk) → Int → Lnk → Bool
  | none, _, _ => false
  | some (l, P), k, L => !(decide (0 ≤ gapL P L) && decide (gapL P L < k - l))
def growO : Option Ent → Int
  | none => 0
  | some e => e.grow
def linksG (A B : Int → Option Ent) : List Int → Int → Option (Int × Lnk) → Option (List Lnk)
  | [], _, _ => some []
  | k :: ks, g, prev => match linkM (A k) (B k) g with
    | none => none
    | some L => match gapBad prev k L with
      | true => none
      | false => (linksG A B ks (g + growO (A k)) (some (k, L))).map (L :: ·)
def keysOf (es fs : List Ent) : List Int := keysU ((es ++ fs).map Ent.key)
def linksM (es fs : List Ent) : Option (List Lnk) := linksG (findE es) (findE fs) (keysOf es fs) 0 none
theorem findE_some {es : List Ent} (hp : (es.map Ent.key).Pairwise (· < ·)) {i : Nat} {e : Ent} (h : es[i]? = some e) : findE es e.key = some e := by
  unfold findE
  induction es generalizing i with
  | nil => simp at h
  | cons a r ih =>
    rw [List.map_cons, List.pairwise_cons] at hp
    cases i with
    | zero =>
      have ea := Option.some.inj h
      subst ea
      rw [List.find?_cons, decide_eq_true rfl]
    | succ i =>
      have h' : r[i]? = some e := by simpa using h
      have hlt := hp.1 e.key (List.mem_map.mpr ⟨e, List.mem_of_getElem? h', rfl⟩)
      rw [List.find?_cons, decide_eq_false (by omega)]
      exact ih hp.2 h'
theorem findE_none {es : List Ent} {k : Int} (h : k ∉ es.map Ent.key) : findE es k = none := by
  unfold findE
  rw [List.find?_eq_none]
  intro e he
  simp only [decide_eq_true_eq]
  exact fun z => h (List.mem_map.mpr ⟨e, he, z⟩)
theorem keyO_eq (es : List Ent) : ∀ k, (k ∈ es.map Ent.key ↔ (findE es k).isSome = true) := fun k => by
  unfold findE
  rw [List.find?_isSome]
  constructor
  · intro h
    obtain ⟨e, he, ek⟩ := List.mem_map.mp h
    exact ⟨e, he, decide_eq_true ek⟩
  · rintro ⟨e, he, ek⟩
    exact List.mem_map.mpr ⟨e, he, of_decide_eq_true ek⟩
/-- enough for an entry's key -/
structure KeyOk (w : Nat) (e : Ent) : Prop where
  o : ORowOk w e.o
  n : ORowOk w e.n
  k : e.o = none → e.n = none → False
theorem EntOk.key {w : Nat} {e : Ent} (h : EntOk w e) : KeyOk w e := ⟨h.o, h.n, fun h1 h2 => by
  have k := h.k
  rw [h1, h2] at k
  exact k⟩
theorem turnG_mem : ∀ {es : List Ent} {g : Int} {f : Ent}, f ∈ turnG g es → ∃ e ∈ es, f.o = e.n ∧ f.n = e.o
  | [], _, f, h => by simp [turnG] at h
  | a :: r, g, f, h => by
    rcases List.mem_cons.mp (show f ∈ (⟨a.p + g, a.n, a.o⟩ : Ent) :: turnG (g + a.grow) r from h) with h | h
    · exact ⟨a, List.mem_cons_self, by rw [h], by rw [h]⟩
    · obtain ⟨e, he, h1, h2⟩ := turnG_mem h
      exact ⟨e, List.mem_cons_of_mem _ he, h1, h2⟩
/-- the key is the same on both sides -/
theorem EntOk.swap {w : Nat} {e : Ent} (h : EntOk w e) (p : Int) : Ent.key ⟨p, e.n, e.o⟩ = e.key := by
  have k := h.k
  unfold Ent.key
  cases ho : e.o with
  | none => cases hn : e.n <;> rfl
  | some a =>
    cases hn : e.n with
    | none => rfl
    | some b =>
      rw [ho, hn] at k
      exact k.1.symm
theorem turnG_keys {w : Nat} : ∀ {es : List Ent} {g : Int}, (∀ e ∈ es, EntOk w e) → (turnG g es).map Ent.key = es.map Ent.key
  | [], _, _ => rfl
  | a :: r, g, h => by
    show Ent.key ⟨a.p + g, a.n, a.o⟩ :: (turnG (g + a.grow) r).map Ent.key = a.key :: r.map Ent.key
    rw [(h a List.mem_cons_self).swap, turnG_keys fun e he => h e (List.mem_cons_of_mem _ he)]
theorem turnG_key {w : Nat} {es : List Ent} {g : Int} (h : ∀ e ∈ es, EntOk w e) : ∀ f ∈ turnG g es, KeyOk w f := fun f hf => by
  obtain ⟨e, he, h1, h2⟩ := turnG_mem hf
  have q := (h e he).key
  exact ⟨by rw [h1]; exact q.n, by rw [h2]; exact q.o, fun z1 z2 => q.k (by rw [← h2]; exact z2) (by rw [← h1]; exact z1)⟩
/-! ### but the list at D all stays -/
def ExB (D : Addr) (H H' : Hp) : Prop := ∀ b o, b ≠ D → H b = some o → H' b = some o
theorem ExB.refl (D : Addr) (H : Hp) : ExB D H H := fun _ _ _ h => h
theorem ExB.ex {D : Addr} {H H1 H2 : Hp} (a : ExB D H H1) (e : Ex H1 H2) : ExB D H H2 := fun b o n h => e b o (a b o n h)
theorem ExB.upd {D : Addr} {H H1 : Hp} {o : HO} (a : ExB D H H1) : ExB D H (upd H1 D o) := fun b x n h => by
  rw [upd_ne n]
  exact a b x n h
theorem exB_t {K : Fg} {D : Addr} {H H' : Hp} {a : Addr} {xs ys : List V} (e : ExB D H H') (hD : H D = some (.lst ys)) (h : SqT K H a xs) : SqT K H' a xs := by
  rcases h with (h | ⟨o, h⟩) | h
  · exact .inl (.inl (e _ _ (fun z => by rw [z, hD] at h; cases h) h))
  · exact .inl (.inr ⟨o, e _ _ (fun z => by rw [z, hD] at h; cases h) h⟩)
  · exact .inr h
theorem ExB.exN {D : Addr} {H H' : Hp} {ys : List V} (e : ExB D H H') (hD : H D = some (.lst ys)) : ExN H H' := fun a o h n => e a o (fun z => by rw [z, hD] at h; rw [← Option.some.inj h] at n; exact not_lst n) h
/-- what a dict of entries says at a key -/
theorem get_voe {K : Fg} {H : Hp} {us : List V} {es : List Ent} (hp : (es.map Ent.key).Pairwise (· < ·)) (hv : All2 (VE K H) us es) (k : Int) :
    VOE K H ((valV (dkOf (es.map Ent.key) us) (Sum.inl k)).getD .non) (findE es k) ∧ (valV (dkOf (es.map Ent.key) us) (Sum.inl k)).isSome = (findE es k).isSome := by
  by_cases hk : k ∈ es.map Ent.key
  · obtain ⟨e, he, ek⟩ := List.mem_map.mp hk
    obtain ⟨i, hi, ei⟩ := List.mem_iff_getElem.mp he
    have h1 : es[i]? = some e := by rw [List.getElem?_eq_getElem hi, ei]
    obtain ⟨v, hv1, hve⟩ := hv.get' h1
    have h2 : (es.map Ent.key)[i]? = some k := by rw [List.getElem?_map, h1, ← ek]; rfl
    rw [dk_some hp h2 hv1, ← ek, findE_some hp h1]
    exact ⟨hve, rfl⟩
  · rw [dk_none hk, findE_none hk]
    exact ⟨rfl, rfl⟩
end Pl

end

section
set_option Elab.async false
set_option linter.all false
set_option maxRecDepth 100000
set_option maxHeartbeats 2000000
/-! PlU: name = {key: value for ..}. -/
namespace Pl
open PySem PySem.Spec PyProof.Rows L2 Evl
section
variable {X : Cx}
theorem sw_dict {kx vx : Expr} {gs : List Comprehension} {scope : Scope} {pos py : Pos} {y : Str} {l : Nat} {env : Env} (hk : env.scope.kind = .function) (hy : env.scope.names.lookup y = some .local) (hl : (py.line == pos.line) = true)
    (ha : (scope.names.any fun (n, k) => n == y && (k == .local || k == .cell)) = false) : swapsWith (.DictComp kx vx gs scope pos) (some (.Name y py)) l env = pure true := by
  have k1 : env.kindOf y = some .local := hy
  have k2 : env.blockKind = .function := by unfold Env.blockKind; rw [hk]; rfl
  unfold swapsWith
  simp only [k2, k1, ha, Expr.pos, hl]
  rfl
theorem ps_setDc {i : Nat} {y : Str} {py : Pos} {kx vx tg iter : Expr} {ifs : List Expr} {scope : Scope} {own : List (Str × Nat)} {pos spos : Pos} {wi : TI} {g : TG} {tt : TT} {tk tv : TE} (hc : X.calm = true) (hN : X.N.Nodup) (hy : X.N[i]? = some y) (hyl : X.env.scope.names.lookup y = some .local)
    (hsw : swapsWith (.DictComp kx vx [⟨tg, iter, ifs, 0⟩] scope pos) (some (.Name y py)) spos.line X.env = pure true) (hi : PI X tg iter wi) (ok : BlkOk X.N X.env.scope scope own)
    (hg : ∀ (s : Shared) (H : Hp) (C : Addr) (cl : List (Str × Addr)) (fp : List Addr), PG (X.blk s H scope (compEnvC scope cl C X.env) fp) tg g) (ht : ∀ (s : Shared) (H : Hp) (C : Addr) (cl : List (Str × Addr)) (fp : List Addr), PTs (X.blk s H scope (compEnvC scope cl C X.env) fp) ifs tt)
    (hk : ∀ (s : Shared) (H : Hp) (C : Addr) (cl : List (Str × Addr)) (fp : List Addr), PE (X.blk s H scope (compEnvC scope cl C X.env) fp) kx tk)
    (he : ∀ (s : Shared) (H : Hp) (C : Addr) (cl : List (Str × Addr)) (fp : List Addr), PE (X.blk s H scope (compEnvC scope cl C X.env) fp) vx tv) (hs : ∀ x, foldedSetIterable iter X.env x = pure x := by intro _; rfl) :
    PS X (.Assign [.Name y py] (.DictComp kx vx [⟨tg, iter, ifs, 0⟩] scope pos) spos) (tAsg (tDc wi g tt tk tv (own.map (·.2))) (gName i)) := by
  refine ⟨fun pins s σ H D I h => ?_⟩
  rw [exec_Assign_Name_used _ _ _ _ hsw]
  refine wpAny_bind (wpAny_standAt (wpAny_bind ?_))
  show wpAny _ X.A (do let _ ← comprehension (.DictComp kx vx [⟨tg, iter, ifs, 0⟩] scope pos) scope X.env (firstIterPos [⟨tg, iter, ifs, 0⟩] pos) newDict false (eval iter X.env) (some (assign (.Name y py) X.env))) _ _ s
  have h : tDc wi g tt tk tv (own.map (·.2)) σ H (fun x H1 => gName i x σ H1 D.nx) := h
  refine wpAny_bind (thn (dc_core (Qf := fun _ s' => SP X pins D .next s') hc hN I hi ok hg ht hk he hs h fun L C s' m H' I' q hn f => ?_) fun _ s' hq => wpAny_pure (wpAny_pure hq))
  show wpAny _ _ (assign (.Name y py) X.env (.ref L)) _ _ _
  refine wpAny_assign_Name (store_ok2 (v := V.ref L) I' hN hy (.inl hyl) rfl (fun s2 I2 ⟨a, sb, ha⟩ => ?_) (.inr hyl))
  obtain ⟨f0, f1, f2, f3, f4, f5⟩ := f
  have haC : C ≠ a := by
    rcases ha with z | z
    · rw [z]; exact f1
    · exact fun e => f4 y a z e.symm
  refine ⟨m, hn.sameBut sb haC, fun h3 sb3 => ?_⟩
  exact ⟨_, H', I2.turned (t' := s2.toks) (fun b o hb e => (sb3.2 b hb).trans e) f0 f1 f3 f4 f5, q⟩
end
end Pl

end

section
set_option Elab.async false
set_option linter.all false
set_option maxRecDepth 100000
set_option maxHeartbeats 4000000
/-! PlV: try with several except clauses, some of them with a name. -/
namespace Pl
open PySem PySem.Spec PyProof.Rows L2
/-- a clause: its class, the slot of its name, its suite -/
abbrev Hd : Type := Value × Option Nat × (Addr → Value → Option Addr → TS)
def wAny (K : PySem.W.Frag) (Wout : WX) (D : Ends) : List Hd → WX
  | [] => Wout
  | (c, none, ts) :: r => fun cls d σ H => ∃ b, PySem.W.exmOne K cls c = some b ∧ (b = true → ∀ a, H a = none → ts a cls d D σ H) ∧ (b = false → wAny K Wout D r cls d σ H)
  | (c, some i, ts) :: r => fun cls d σ H => ∃ b, PySem.W.exmOne K cls c = some b ∧
    (b = true → ∀ a, H a = none → ts a cls d { nx := fun σ' H' => D.nx (σ'.set i none) H', rt := D.rt, bk := fun σ' H' => D.bk (σ'.set i none) H', ct := fun σ' H' => D.ct (σ'.set i none) H' } (σ.set i (some (.ref a))) H) ∧ (b = false → wAny K Wout D r cls d σ H)
inductive HdsA (X : Cx) : List ExceptHandler → List Hd → Prop
  | nil : HdsA X [] []
  | cons {x : Str} {c : Value} {ts : Addr → Value → Option Addr → TS} {b₀ : Stmt} {suite : List Stmt} {np pos' : Pos} {hds : List ExceptHandler} {l : List Hd} (hc : Names X x c)
      (hsu : ∀ (a : Addr) (oe : Obj) (cls : Value) (d : Option Addr) (pn : List (Addr × Obj)), Zc cls d oe → (∃ vs, oe.data = .fields vs) → PSs (X.suite a ((a, oe) :: pn)) (b₀ :: suite) (ts a cls d)) (r : HdsA X hds l) :
      HdsA X (.ExceptHandler (some (.Name x np)) none (b₀ :: suite) pos' :: hds) ((c, none, ts) :: l)
  | as_ {x : Str} {c : Value} {ts : Addr → Value → Option Addr → TS} {b₀ : Stmt} {suite : List Stmt} {np pos' : Pos} {hds : List ExceptHandler} {l : List Hd} {n : Str} {i : Nat} (hi : X.N[i]? = some n) (hln : X.env.kindOf n = some .local) (hc : Names X x c)
      (hsu : ∀ (a : Addr) (oe : Obj) (cls : Value) (d : Option Addr) (pn : List (Addr × Obj)), Zc cls d oe → (∃ vs, oe.data = .fields vs) → PSs (X.suite a ((a, oe) :: pn)) (b₀ :: suite) (ts a cls d)) (r : HdsA X hds l) :
      HdsA X (.ExceptHandler (some (.Name x np)) (some n) (b₀ :: suite) pos' :: hds) ((c, some i, ts) :: l)
section
variable {X : Cx} {body : List Stmt} {h₀ : ExceptHandler} {hds : List ExceptHandler} {l : List Hd} {pos : Pos} {tb : WX → TS} {Wout : WX}
theorem ps_tryA (hs : X.stack = X.env :: X.outer) (hf : X.env.frame = some X.env.locals) (hN : X.N.Nodup) (tk : Takes X Wout)
    (hb : ∀ (W : WX) (pn : List (Addr × Obj)) (xe : Value → Shared → Prop), Takes (X.tr pn xe) W → PassesOwn (model X.prog X.w) X.A X.env xe → PSs (X.tr pn xe) body (tb W))
    (hh : HdsA X (h₀ :: hds) l) : PS X (.Try body (h₀ :: hds) [] [] pos) (fun D σ H => tb (wAny X.K Wout D l) D σ H) := by
  refine ⟨fun pins s σ H D I h => ?_⟩
  have ok := I.ok
  have hfr : X.A.frames = some (X.env :: X.outer) := by rw [ok.frames, hs]
  refine wpAny_Try_except ?_
  refine wpAny_mono ((hb (wAny X.K Wout D l) (X.pn ++ pins) (fun e s₁ => wpAny (model X.prog X.w) X.A (noteFrame e X.env) (fun _ s₂ => wpAny (model X.prog X.w) X.A (setFlight e none) (fun _ s₃ =>
    wpAny (model X.prog X.w) X.A (handleBy e X.env (h₀ :: hds)) (SP X pins D) X.xe s₃) X.xe s₂) X.xe s₁) (fun u s' xx => ?_) PassesOwn.looking).run [] s σ H D (I.toTry _) h) (fun f s1 hsp => ?_) (fun e s1 he => he)
  · -- the catch
    obtain ⟨a, B, sI, pins', σ', H', cls, d, rfl, J', nb, up, sky, na, os, ag, w⟩ := xx
    have J : Inv X pins σ' H' sI := J'.ofTry ok
    have sky' : Sky B (X.env :: X.outer) a (Zc cls d) X.env.locals s'.heap := by rw [← hs]; exact sky
    show wpAny (model X.prog X.w) X.A (noteFrame (.ref a) X.env) _ _ _
    refine Sky.land Zc.steady hfr hf sky' fun h3 fl3 up3 => ?_
    have J3 : Inv X pins σ' H' { s' with heap := h3 } := J.landed nb fl3.1 (up.trans up3) os ag
    obtain ⟨oe3, vs3, he3, hz3, hd3⟩ := fl3.there
    have notFr : ∀ {h : Heap} {o : Obj} {vs : Array Value}, h.FunFrames B (X.env :: X.outer) → h.get? a = some o → o.data = .fields vs → a ∉ frs (X.env :: X.outer) := fun {h o vs} ff e dd hm => by
      obtain ⟨_, o', e', hnf⟩ := ff.mem hm
      rw [e] at e'; cases e'
      exact hnf _ dd
    have nfr := notFr fl3.2.2.1 he3 hd3
    have nL : a ≠ X.env.locals := fun z => nfr (List.mem_filterMap.mpr ⟨X.env, List.mem_cons_self, by rw [hf, z]⟩)
    have nF : a ∉ X.fs := fun hm => by
      obtain ⟨e, he, q⟩ := List.mem_filterMap.mp hm
      exact nfr (List.mem_filterMap.mpr ⟨e, List.mem_cons_of_mem _ he, q⟩)
    have S3 := J3.suite he3 hd3 na nL nF
    have go : ∀ {hds' : List ExceptHandler} {l' : List Hd}, HdsA X hds' l' → wAny X.K Wout D l' cls d σ' H' →
        wpAny (model X.prog X.w) X.A (handleBy (.ref a) X.env hds') (SP X pins D) X.xe { s' with heap := h3 } := by
      intro hds' l' hk
      induction hk with
      | nil =>
        intro w
        refine wpAny_handleBy_nil ?_
        obtain ⟨k1, k2, k3, oe, vs, T, oT, ts', he, hz, hd, h1, hr⟩ := id fl3
        unfold PySem.passOn
        refine wpAny_bind (wpAny_field he hd h1 ?_)
        rw [if_neg (show ¬ ((Value.ref T == Value.none) = true) from by simp)]
        have fin : wpAny (model X.prog X.w) X.A (setFlight (.ref a) X.env.frame) (fun _ s4 => wpAny (model X.prog X.w) X.A (throw (.ref a) : Sem Flow) (SP X pins D) X.xe s4) X.xe { s' with heap := h3 } := by
          rw [hf]
          refine HandSPX.setFlight_upZ fl3 fun h4 hh4 up4 => wpAny_throw (tk _ _ ?_)
          exact ⟨a, B, sI, pins, σ', H', cls, d, rfl, J, nb, (up.trans up3).trans up4, .inr (.inr (by rw [hs]; exact hh4)), na, os, ag, w⟩
        first
          | exact wpAny_bind (wpAny_pure (wpAny_bind fin))
          | exact wpAny_bind fin
      | @cons x c ts b₀ suite np pos' hds2 l2 hc hsu r ih =>
        intro w
        obtain ⟨b, hb1, hyes, hno⟩ := w
        refine wpAny_handleBy_cons (codeAny_handlers_test ?_) (by intro q; cases q)
        have LT : PySem.W.Looks (model X.prog X.w) h3 (typeOf (.ref a)) cls := fun A Q E s k q => wpAny_typeOf_ref (k _ _ he3) (by rw [hz3.1]; exact q)
        have LM := PySem.W.exm_one (M := model X.prog X.w) (J3.kIn) LT hb1
        have test : ∀ {Q : Value → Shared → Prop} {E : Value → Shared → Prop}, Q c { s' with heap := h3 } → wpAny (model X.prog X.w) (X.A.mark (some (.ref a))) (eval (.Name x np) X.env) Q E { s' with heap := h3 } := fun {Q E} q => by
          obtain ⟨hg, hdbg, hm | ⟨hm, hv, hnn⟩⟩ := hc
          · exact ld_glob (X := X.suite a ((a, oe3) :: (X.pn ++ pins))) S3 hg hm q hdbg
          · exact ld_blt (X := X.suite a ((a, oe3) :: (X.pn ++ pins))) S3 hg hm hv q hnn hdbg
        refine test (LM.here ?_)
        cases b with
        | true =>
          refine codeAny_handlers_suite ?_
          refine HandSPX.lands_againZ fl3 fun h4 fl4 up4 => ?_
          have J4 : Inv X pins σ' H' { s' with heap := h4 } := J.landed nb fl4.1 ((up.trans up3).trans up4) os ag
          obtain ⟨oe4, vs4, he4, hz4, hd4⟩ := fl4.there
          have S4 := J4.suite he4 hd4 na nL nF
          refine wpAny_mono ((hsu a oe4 cls d (X.pn ++ pins) hz4 ⟨_, hd4⟩).run [] _ _ H' _ S4 (hyes rfl a na)) (fun f s6 hsp => ?_) (fun _ _ z => False.elim z)
          cases f with
          | next =>
            obtain ⟨σ6, H6, S6, q6⟩ := hsp
            exact ⟨_, _, S6.unsuite ok, q6⟩
          | brk =>
            obtain ⟨σ6, H6, S6, q6⟩ := hsp
            exact ⟨_, _, S6.unsuite ok, q6⟩
          | cont =>
            obtain ⟨σ6, H6, S6, q6⟩ := hsp
            exact ⟨_, _, S6.unsuite ok, q6⟩
          | ret u =>
            obtain ⟨v6, σ6, H6, S6, r6, q6⟩ := hsp
            exact ⟨_, _, _, S6.unsuite ok, r6, q6⟩
        | false =>
          show wpAny _ X.A (handleBy (.ref a) X.env hds2) _ _ _
          exact ih (hno rfl)
      | @as_ x c ts b₀ suite np pos' hds2 l2 n i hi hln hc hsu r ih =>
        intro w
        obtain ⟨b, hb1, hyes, hno⟩ := w
        refine wpAny_handleBy_cons (codeAny_handlers_test ?_) (by intro q; cases q)
        have LT : PySem.W.Looks (model X.prog X.w) h3 (typeOf (.ref a)) cls := fun A Q E s k q => wpAny_typeOf_ref (k _ _ he3) (by rw [hz3.1]; exact q)
        have LM := PySem.W.exm_one (M := model X.prog X.w) (J3.kIn) LT hb1
        have test : ∀ {Q : Value → Shared → Prop} {E : Value → Shared → Prop}, Q c { s' with heap := h3 } → wpAny (model X.prog X.w) (X.A.mark (some (.ref a))) (eval (.Name x np) X.env) Q E { s' with heap := h3 } := fun {Q E} q => by
          obtain ⟨hg, hdbg, hm | ⟨hm, hv, hnn⟩⟩ := hc
          · exact ld_glob (X := X.suite a ((a, oe3) :: (X.pn ++ pins))) S3 hg hm q hdbg
          · exact ld_blt (X := X.suite a ((a, oe3) :: (X.pn ++ pins))) S3 hg hm hv q hnn hdbg
        refine test (LM.here ?_)
        cases b with
        | true =>
          refine codeAny_handlers_suite_as ?_
          refine HandSPX.lands_againZ fl3 fun h4 fl4 up4 => ?_
          have J4 : Inv X pins σ' H' { s' with heap := h4 } := J.landed nb fl4.1 ((up.trans up3).trans up4) os ag
          obtain ⟨oe4, vs4, he4, hz4, hd4⟩ := fl4.there
          have S4 := J4.suite he4 hd4 na nL nF
          have hloc : Loc X.env.scope n := .inl hln
          refine store_ok (X := X.suite a ((a, oe4) :: (X.pn ++ pins))) (v := .ref a) S4 hN hi hloc rfl (fun s5 S5 => ?_) (.inr hln)
          refine wpAny_mono ((hsu a oe4 cls d (X.pn ++ pins) hz4 ⟨_, hd4⟩).run [] s5 _ H' _ S5 (hyes rfl a na)) (fun f s6 hsp => ?_) (fun _ _ z => False.elim z)
          have end_ : ∀ {σ6 : L2.St} {H6 : Hp} {Q : Shared → Prop}, Inv (X.suite a ((a, oe4) :: (X.pn ++ pins))) [] σ6 H6 s6 → (∀ s7, Inv X pins (σ6.set i none) H6 s7 → Q s7) →
              wpAny (model X.prog X.w) X.A (do bindName X.env n .none; unbindBehindTheSuite X.env n pos') (fun _ s7 => Q s7) X.xe s6 := fun {σ6 H6 Q} S6 hq => gone_ok (S6.unsuite ok) hN hi hln hq
          cases f with
          | next =>
            obtain ⟨σ6, H6, S6, q6⟩ := hsp
            exact end_ S6 fun s7 J7 => ⟨_, _, J7, q6⟩
          | brk =>
            obtain ⟨σ6, H6, S6, q6⟩ := hsp
            exact end_ S6 fun s7 J7 => ⟨_, _, J7, q6⟩
          | cont =>
            obtain ⟨σ6, H6, S6, q6⟩ := hsp
            exact end_ S6 fun s7 J7 => ⟨_, _, J7, q6⟩
          | ret u =>
            obtain ⟨v6, σ6, H6, S6, r6, q6⟩ := hsp
            exact end_ S6 fun s7 J7 => ⟨_, _, _, J7, r6, q6⟩
        | false =>
          show wpAny _ X.A (handleBy (.ref a) X.env hds2) _ _ _
          exact ih (hno rfl)
    exact go hh w
  · cases f with
    | next =>
      obtain ⟨σ', H', J', q⟩ := hsp
      exact wpAny_execs_nil ⟨σ', H', J'.ofTry ok, q⟩
    | brk =>
      obtain ⟨σ', H', J', q⟩ := hsp
      exact ⟨σ', H', J'.ofTry ok, q⟩
    | cont =>
      obtain ⟨σ', H', J', q⟩ := hsp
      exact ⟨σ', H', J'.ofTry ok, q⟩
    | ret u =>
      obtain ⟨v, σ', H', J', r, q⟩ := hsp
      exact ⟨v, σ', H', J'.ofTry ok, r, q⟩
end
end Pl

end

section
set_option Elab.async false
set_option linter.all false
set_option maxRecDepth 100000
set_option maxHeartbeats 2000000
/-! PlW: layers and tables on the heap. -/
namespace Pl
open PySem PySem.Spec PyProof.Rows L2 Evl

/-- all but two addresses stays -/
def ExI (x dx : Addr) (H H' : Hp) : Prop := ∀ b o, b ≠ x → b ≠ dx → H b = some o → H' b = some o
theorem ExI.refl {x dx : Addr} {H : Hp} : ExI x dx H H := fun _ _ _ _ h => h
theorem ExI.ex {x dx : Addr} {H H1 H2 : Hp} (a : ExI x dx H H1) (e : Ex H1 H2) : ExI x dx H H2 := fun b o h1 h2 h => e b o (a b o h1 h2 h)
theorem ExI.sl {x dx C : Addr} {H H1 : Hp} {sv : List (Option V)} (a : ExI x dx H H1) : ExI x dx H (SlX.slH H1 x C dx sv) := fun b o h1 h2 h => by
  rw [SlX.slH_ne h1 h2]
  exact a b o h1 h2 h
/-- a fresh instance -/
structure Fresh (H : Hp) (x C dx : Addr) : Prop where
  ins : H x = some (.ins C dx [])
  own : H dx = some (.own x)
  ne : dx ≠ x
theorem fresh_of {H : Hp} {x C dx : Addr} (h : dx ≠ x) : Fresh (upd (upd H dx (.own x)) x (.ins C dx [])) x C dx := ⟨upd_same, by rw [upd_ne h, upd_same], h⟩
theorem ExI.new {H H' : Hp} {x C dx : Addr} (h1 : H x = none) (h2 : H dx = none) (e : ExI x dx (upd (upd H dx (.own x)) x (.ins C dx [])) H') : Ex H H' := fun b o hb => by
  have n1 := ne_of_none hb h1
  have n2 := ne_of_none hb h2
  exact e b o n1 n2 (by rw [upd_ne n1, upd_ne n2]; exact hb)
section
variable {K : Fg} {H H' : Hp} {x C dx a : Addr} {xs : List V}
theorem Fresh.exN (f : Fresh H x C dx) (e : ExI x dx H H') : ExN H H' := fun b o hb n => by
  refine e b o (fun z => ?_) (fun z => ?_) hb
  · rw [z, f.ins] at hb
    rw [← Option.some.inj hb] at n
    rcases n with ⟨_, h⟩ | ⟨_, _, h⟩ <;> cases h
  · rw [z, f.own] at hb
    rw [← Option.some.inj hb] at n
    rcases n with ⟨_, h⟩ | ⟨_, _, h⟩ <;> cases h
theorem Fresh.t (f : Fresh H x C dx) (e : ExI x dx H H') (h : SqT K H a xs) : SqT K H' a xs := exn_t (f.exN e) h
theorem Fresh.l (f : Fresh H x C dx) (e : ExI x dx H H') (h : SqL K H a xs) : SqL K H' a xs := by
  have key : ∀ o, H a = some o → (∀ C' d' fs, o ≠ .ins C' d' fs) → (∀ y, o ≠ .own y) → H' a = some o := fun o ho h1 h2 => e a o (fun z => by rw [z, f.ins] at ho; exact h1 _ _ _ (Option.some.inj ho).symm) (fun z => by rw [z, f.own] at ho; exact h2 _ (Option.some.inj ho).symm) ho
  rcases h with (h | ⟨o, h⟩) | h
  · exact .inl (.inl (key _ h (fun _ _ _ z => nomatch z) fun _ z => nomatch z))
  · exact .inl (.inr ⟨o, key _ h (fun _ _ _ z => nomatch z) fun _ z => nomatch z⟩)
  · exact .inr h
theorem Fresh.en {L : Bool} (f : Fresh H x C dx) (e : ExI x dx H H') (h : EnS K L a xs H) : EnS K L a xs H' := by
  cases L with
  | true => exact f.l e h
  | false => exact f.t e h
end
theorem cut_mem {ns : List Int} {b : Int} {k : Nat} (hp : ns.Pairwise (· < ·)) (c : Cut ns b k) : b ∈ ns ↔ ns[k]? = some b := by
  constructor
  · intro h
    obtain ⟨i, hi, e⟩ := List.mem_iff_getElem.mp h
    have h1 : ns[i]? = some b := by rw [List.getElem?_eq_getElem hi, e]
    have h2 := c.2 i b h1
    rcases Nat.lt_trichotomy i k with z | z | z
    · have := h2.mp z
      omega
    · rw [← z]
      exact h1
    · have hk : k < ns.length := by omega
      have h3 : ns[k]? = some ns[k] := List.getElem?_eq_getElem hk
      have h4 := c.2 k _ h3
      have h5 := pw_get hp h3 h1 z
      have := h4.mpr h5
      omega
  · exact fun h => List.mem_of_getElem? h
def findR (rs : List Rwv) (k : Int) : Option Rwv := rs.find? fun r => decide (r.key = k)
theorem findR_some {rs : List Rwv} (hp : (rs.map Rwv.key).Pairwise (· < ·)) {i : Nat} {r : Rwv} (h : rs[i]? = some r) : findR rs r.key = some r := by
  unfold findR
  induction rs generalizing i with
  | nil => simp at h
  | cons a l ih =>
    rw [List.map_cons, List.pairwise_cons] at hp
    cases i with
    | zero =>
      have ea := Option.some.inj h
      subst ea
      rw [List.find?_cons, decide_eq_true rfl]
    | succ i =>
      have h' : l[i]? = some r := by simpa using h
      have hlt := hp.1 r.key (List.mem_map.mpr ⟨r, List.mem_of_getElem? h', rfl⟩)
      rw [List.find?_cons, decide_eq_false (by omega)]
      exact ih hp.2 h'
theorem findR_none {rs : List Rwv} {k : Int} (h : k ∉ rs.map Rwv.key) : findR rs k = none := by
  unfold findR
  rw [List.find?_eq_none]
  intro r hr
  simp only [decide_eq_true_eq]
  exact fun z => h (List.mem_map.mpr ⟨r, hr, z⟩)
/-- a layer at x -/
structure VLay (K : Fg) (H : Hp) (C x : Addr) (n : Nat) (es : List Ent) : Prop where
  ex : ∃ dx le lk us, SlX.Slt H x C dx [some (.ref le), some (.ref lk), some (.int (n : Int))] ∧ SqL K H le us ∧ All2 (VE K H) us es ∧ SqL K H lk (vis (es.map Ent.key))
structure VTab (K : Fg) (H : Hp) (C x : Addr) (n : Nat) (rs : List Rwv) : Prop where
  ex : ∃ dx lk lr us, SlX.Slt H x C dx [some (.ref lk), some (.ref lr), some (.int (n : Int))] ∧ SqL K H lr us ∧ All2 (VR K H) us rs ∧ SqL K H lk (vis (rs.map Rwv.key))
section
variable {K : Fg} {H H' : Hp} {C x : Addr} {n : Nat}
theorem VLay.mono {es : List Ent} (e : Ex H H') (h : VLay K H C x n es) : VLay K H' C x n es := by
  obtain ⟨dx, le, lk, us, h1, h2, h3, h4⟩ := h
  exact ⟨dx, le, lk, us, ex_slt e h1, ex_l e h2, ves_ex (ExN.of e) h3, ex_l e h4⟩
theorem VTab.mono {rs : List Rwv} (e : Ex H H') (h : VTab K H C x n rs) : VTab K H' C x n rs := by
  obtain ⟨dx, lk, lr, us, h1, h2, h3, h4⟩ := h
  exact ⟨dx, lk, lr, us, ex_slt e h1, ex_l e h2, vrs_ex (ExN.of e) h3, ex_l e h4⟩
end
end Pl

end

section
set_option Elab.async false
set_option linter.all false
set_option maxRecDepth 100000
set_option maxHeartbeats 2000000
/-! PlX: defs with a star parameter and a keyword; conflicts, plain. -/
namespace Pl
open PySem PySem.Spec PyProof.Rows L2 Evl

theorem hu65 {A : Around} {k : Nat} (hr : Room k A) : A.units + 65 < cLine := by have := hr.un; omega
section
variable {P : Program} {w : World} {K : Fg} {mg : Str → Option Value} {base : Heap} {x qual q : Str} {st : Stmt} {N : List Str} {p1 pv : Str} {k : Nat} {sp : Sp} {f : Addr} {fd : FuncData}
/-- def f(a, *r, q = ..), q given by its name -/
theorem fna_star1 {nmax : Nat} (F : FunD K x qual (defArgs st) (defBody st) (defScope st) [] [] f fd) (S : FnScope N [p1, q, pv] (defScope st))
    (hb : ∀ (kV doc pm : Value) (an : Option Addr) (cdv ct : Value) (a : Value) (rest : List Value) (z : Value), rest.length ≤ nmax → bindArgs (PySem.W.fnOf x qual (defArgs st) (defBody st) (defScope st) .none kV doc pm an cdv ct) ⟨a :: rest, [(q, z)]⟩ = (newTuple rest >>= fun t => pure [(p1, a), (q, z), (pv, t)]))
    (hm : nmax ≤ sizeLine) (hw : Walked P w K mg base k N qual st f sp) :
    FnA P w K mg base (k + 1) f [q] (fun vs H Q E => ∃ a rest z, vs = a :: rest ++ [z] ∧ rest.length ≤ nmax ∧ ∀ p, H p = none → sp [a, z, .ref p] (upd H p (.tup rest)) Q E) := by
  obtain ⟨oc, od, dV, kV, doc, pm, an, cdv, ct, osl, rfl, lk, hcd, hD, hK⟩ := F.ex
  rcases hD with ⟨_, rfl⟩ | ⟨e, _⟩
  · intro A outer s H us ws vs zs Q E hr e0 r1 r2 l h
    obtain ⟨a, rest, z, ev, hz', hq⟩ := h
    have hz : rest.length ≤ sizeLine := Nat.le_trans hz' hm
    match ws, l, r2 with
    | [y], _, r2 =>
      obtain ⟨vz, rfl, rz⟩ : ∃ vz, zs = [vz] ∧ RelV vz y := by
        cases r2 with
        | cons r rn =>
          cases rn
          exact ⟨_, rfl, r⟩
      have ev2 : vs = a :: rest ∧ vz = z := by
        have := List.append_inj' (show vs ++ [vz] = (a :: rest) ++ [z] from ev) rfl
        exact ⟨this.1, by have := this.2; injection this⟩
      obtain ⟨e1, e2⟩ := ev2
      subst e1 e2
      cases r1 with
      | cons ra rr =>
        rename_i ua urest
        have hn : H s.heap.objs.size = Option.none := e0.hok.fresh (Nat.le_refl _)
        have hl2 : urest.length ≤ sizeLine := by rw [← rr.length]; exact hz
        refine StX.run_bnd lk hcd S hr e0 (G := fun xs H2 => ∃ p, H p = Option.none ∧ xs = [a, vz, V.ref p] ∧ H2 = upd H p (.tup rest)) (fun A' Ex' Q' h' => ?_) fun s2 H2 xs ⟨p, hp, ex, eH⟩ hr' => ?_
        · show wpAny _ _ (bindArgs _ ⟨ua :: urest, [(q, y)]⟩) _ _ _
          rw [hb _ _ _ _ _ _ _ _ _ (by rw [← rr.length]; exact hz')]
          refine wpAny_bind (wpAny_newTuple (wpAny_pure ?_) hl2)
          have new : ObjOk P w (upd H s.heap.objs.size (.tup rest)) (s.heap.push ({ cls := .type "tuple", data := .seq urest.toArray } : Obj)) s.heap.objs.size (.tup rest) := ⟨hz, urest, rr, ⟨_, Heap.get?_push_size _ rfl, rfl, _, rfl⟩⟩
          have un := StX.un_laid (fs := frs outer) (s := s) (o := ({ cls := .type "tuple", data := .seq urest.toArray } : Obj)) (u := .tup rest) hn
          exact h' _ _ [a, vz, V.ref s.heap.objs.size] [ua, y, Value.ref s.heap.objs.size] (StX.env0_laid e0 new) un rfl (fun e s' => StX.cxUp outer s H _ _ E e s' un (fun b o q => Heap.get?_push_of_some _ q) rfl) (.cons ra (.cons rz (.cons rfl .nil))) rfl ⟨_, hn, rfl, rfl⟩
        · subst ex eH
          exact hw cdv A outer s2 _ _ Q E hr' (hq p hp)
  · exact absurd rfl e
end
/-! ### conflicts -/
def ByRow (s : Str) : Prop := s = ("row" : Str)
instance (s : Str) : Decidable (ByRow s) := inferInstanceAs (Decidable (s = _))
/-- the columns in which two rows differ -/
def diffC (a b : Rwv) : List Nat := (List.range a.length).filter fun c => decide (a[c]? ≠ b[c]?)
def inConf (by_ : Str) (e f : Ent) : Bool := decide (ByRow by_) || match e.o, e.n, f.o, f.n with
  | some a, some b, some c, some d => (diffC a b).any fun x => (diffC c d).contains x
  | _, _, _, _ => true
def confP (by_ : Str) (fs : List Ent) (e : Ent) : Bool := match findE fs e.key with
  | none => false
  | some f => inConf by_ e f
def conflM (by_ : Str) (es fs : List Ent) : List (Int × Int) := (es.filter (confP by_ fs)).map fun e => (e.p, e.key)
def VP (K : Fg) (H : Hp) (v : V) (p : Int × Int) : Prop := ∃ t, v = .ref t ∧ SqT K H t [.int p.1, .int p.2]
theorem VP.ex {K : Fg} {H H' : Hp} {v : V} {p : Int × Int} (e : ExN H H') (h : VP K H v p) : VP K H' v p := by
  obtain ⟨t, ev, h⟩ := h
  exact ⟨t, ev, exn_t e h⟩
theorem confl_snoc {by_ : Str} {es fs : List Ent} {i : Nat} {e : Ent} (h : es[i]? = some e) : conflM by_ (es.take (i + 1)) fs = conflM by_ (es.take i) fs ++ if confP by_ fs e = true then [(e.p, e.key)] else [] := by
  unfold conflM
  rw [take_snoc h, List.filter_append, List.map_append]
  congr 1
  rw [List.filter_cons]
  split <;> rfl
theorem confl_len (by_ : Str) (es fs : List Ent) : (conflM by_ es fs).length ≤ es.length := by
  unfold conflM
  rw [List.length_map]
  exact List.length_filter_le _ _
/-- the entry has no row on one side -/
def Half (e : Ent) : Prop := e.o = none ∨ e.n = none
theorem inConf_half {s : Str} {e f : Ent} (h : ByRow s ∨ Half e ∨ Half f) : inConf s e f = true := by
  unfold inConf
  by_cases hb : ByRow s
  · rw [decide_eq_true hb, Bool.true_or]
  · rw [decide_eq_false hb, Bool.false_or]
    rcases h with h | (h | h) | (h | h)
    · exact absurd h hb
    · rw [h]
    · rw [h]
      cases e.o <;> rfl
    · rw [h]
      cases e.o <;> cases e.n <;> rfl
    · rw [h]
      cases e.o <;> cases e.n <;> cases f.o <;> rfl
theorem cut3 (a b c : V) : cutV [a, b, c] (some 1) Option.none = [b, c] := rfl
end Pl

end

section
set_option Elab.async false
set_option linter.all false
set_option maxRecDepth 100000
set_option maxHeartbeats 2000000
/-! PlY: layers of one entry that deletes a row: linked, in conflict. -/
namespace Pl
open PySem PySem.Spec PyProof.Rows L2 Evl

def delE (p : Int) (r : Rwv) : Ent := ⟨p, some r, none⟩
theorem del_key (p : Int) (r : Rwv) : (delE p r).key = r.key := rfl
theorem del_ok {n : Nat} {p : Int} {r : Rwv} (hp : 0 ≤ p) (h : RowOk n r) : EntOk n (delE p r) := ⟨hp, h, trivial, trivial⟩
theorem del_ents {n : Nat} {p : Int} {r : Rwv} (hp : 0 ≤ p) (h : RowOk n r) : EntsOk n [delE p r] := ⟨fun e he => by
  rw [List.mem_singleton] at he
  rw [he]
  exact del_ok hp h, trivial⟩
theorem turned_one (p : Int) (r : Rwv) : turnedM [delE p r] = [⟨p + 0, none, some r⟩] := rfl
theorem find_one (e : Ent) (k : Int) : findE [e] k = if e.key = k then some e else none := by
  unfold findE
  rw [List.find?_cons]
  by_cases h : e.key = k
  · rw [decide_eq_true h, if_pos h]
  · rw [decide_eq_false h, if_neg h]
    rfl
theorem keys_lt {e f : Ent} (h : f.key < e.key) : keysOf [e] [f] = [f.key, e.key] := by
  show insK e.key (insK f.key []) = _
  unfold insK
  show insK e.key [f.key] = _
  unfold insK
  rw [if_neg (by omega), if_neg (by omega)]
  rfl
theorem keys_gt {e f : Ent} (h : e.key < f.key) : keysOf [e] [f] = [e.key, f.key] := by
  show insK e.key (insK f.key []) = _
  unfold insK
  show insK e.key [f.key] = _
  unfold insK
  rw [if_pos h]
theorem keys_eq {e f : Ent} (h : e.key = f.key) : keysOf [e] [f] = [e.key] := by
  show insK e.key (insK f.key []) = _
  unfold insK
  show insK e.key [f.key] = _
  unfold insK
  rw [if_neg (by omega), if_pos h, h]
/-- one row deleted; the row below it (in key) deleted behind it (in place) -/
theorem no_base1 {r s : Rwv} (h : s.key = r.key - 1) : linksM (turnedM [delE 0 r]) [delE 1 s] = none := by
  rw [turned_one]
  have ke : Ent.key ⟨0 + 0, none, some r⟩ = r.key := rfl
  unfold linksM
  rw [keys_lt (e := ⟨0 + 0, none, some r⟩) (f := delE 1 s) (by rw [ke, del_key]; omega)]
  unfold linksG
  rw [find_one, find_one, ke, del_key, if_neg (by omega), if_pos rfl]
  show Option.map _ (linksG _ _ [r.key] _ _) = none
  unfold linksG
  rw [find_one, find_one, ke, del_key, if_pos rfl, if_neg (by omega)]
  rfl
theorem no_base2 {r s : Rwv} (h : s.key = r.key - 1) : linksM (turnedM [delE 1 s]) [delE 0 r] = none := by
  rw [turned_one]
  have ke : Ent.key ⟨1 + 0, none, some s⟩ = s.key := rfl
  unfold linksM
  rw [keys_gt (e := ⟨1 + 0, none, some s⟩) (f := delE 0 r) (by rw [ke, del_key]; omega)]
  unfold linksG
  rw [find_one, find_one, ke, del_key, if_pos rfl, if_neg (by omega)]
  show Option.map _ (linksG _ _ [r.key] _ _) = none
  unfold linksG
  rw [find_one, find_one, ke, del_key, if_neg (by omega), if_pos rfl]
  rfl
theorem same_base (r : Rwv) : (linksM (turnedM [delE 0 r]) [delE 0 r]).isSome = true := by
  rw [turned_one]
  have ke : Ent.key ⟨0 + 0, none, some r⟩ = r.key := rfl
  unfold linksM
  rw [keys_eq (e := ⟨0 + 0, none, some r⟩) (f := delE 0 r) rfl]
  unfold linksG
  rw [find_one, find_one, ke, del_key, if_pos rfl, if_pos rfl]
  unfold linkM
  show (match (if (some r ≠ some r ∨ (0 : Int) + 0 + 0 ≠ 0) then none else some _ : Option Lnk) with | none => none | some L => _ : Option (List Lnk)).isSome = true
  rw [if_neg (by intro h; rcases h with h | h; exact h rfl; exact h (by decide))]
  rfl
theorem same_conf (s : Str) (r : Rwv) : conflM s [delE 0 r] [delE 0 r] ≠ [] := by
  have h : confP s [delE 0 r] (delE 0 r) = true := by
    unfold confP
    rw [find_one, if_pos rfl]
    exact inConf_half (.inr (.inl (.inr rfl)))
  unfold conflM
  rw [List.filter_cons, if_pos h]
  simp
end Pl

end

section
set_option Elab.async false
set_option linter.all false
set_option maxRecDepth 100000
set_option maxHeartbeats 4000000
namespace Kx
open PySem PySem.Spec PyProof.Rows L2 Evl Pl
abbrev PR : Program := (PySem.Challenge.rw_placelayers_k88_rules_at_every_door).prog
def topS (i : Nat) : Stmt := (PySem.Challenge.pw_placelayers_k88_rules_at_every_door).main.body.getD i (.Pass ⟨0, 0, 0, 0⟩)
abbrev s_is_integer : Stmt := topS 20
theorem sc_is_integer : FnScope ["value"] ["value"] (defScope s_is_integer) := ⟨rfl, rfl, rfl, by decide +kernel, rfl, by decide +kernel, by decide +kernel⟩
abbrev s_count_below : Stmt := topS 23
theorem sc_count_below : FnScope ["numbers", "bound", "low", "high", "middle"] ["numbers", "bound"] (defScope s_count_below) := ⟨rfl, rfl, rfl, by decide +kernel, rfl, by decide +kernel, by decide +kernel⟩
abbrev s_check_width : Stmt := topS 25
theorem sc_check_width : FnScope ["width"] ["width"] (defScope s_check_width) := ⟨rfl, rfl, rfl, by decide +kernel, rfl, by decide +kernel, by decide +kernel⟩
abbrev s_is_row : Stmt := topS 26
theorem sc_is_row : FnScope ["value", "width", "number"] ["value", "width"] (defScope s_is_row) := ⟨rfl, rfl, rfl, by decide +kernel, rfl, by decide +kernel, by decide +kernel⟩
abbrev s_check_rows : Stmt := topS 27
theorem sc_check_rows : FnScope ["width", "rows", "checked", "index", "row"] ["width", "rows"] (defScope s_check_rows) := ⟨rfl, rfl, rfl, by decide +kernel, rfl, by decide +kernel, by decide +kernel⟩
abbrev s_is_entry : Stmt := topS 35
theorem sc_is_entry : FnScope ["value", "width", "place", "old", "new", "row"] ["value", "width"] (defScope s_is_entry) := ⟨rfl, rfl, rfl, by decide +kernel, rfl, by decide +kernel, by decide +kernel⟩
abbrev s_entry_key : Stmt := topS 36
theorem sc_entry_key : FnScope ["entry", "_", "old", "new"] ["entry"] (defScope s_entry_key) := ⟨rfl, rfl, rfl, by decide +kernel, rfl, by decide +kernel, by decide +kernel⟩
abbrev s_entry_growth : Stmt := topS 38
theorem sc_entry_growth : FnScope ["entry", "_", "old", "new"] ["entry"] (defScope s_entry_growth) := ⟨rfl, rfl, rfl, by decide +kernel, rfl, by decide +kernel, by decide +kernel⟩
abbrev s_gap_size : Stmt := topS 39
theorem sc_gap_size : FnScope ["entry", "following"] ["entry", "following"] (defScope s_gap_size) := ⟨rfl, rfl, rfl, by decide +kernel, rfl, by decide +kernel, by decide +kernel⟩
abbrev s_in_order : Stmt := topS 40
theorem sc_in_order : FnScope ["entry", "following"] ["entry", "following"] (defScope s_in_order) := ⟨rfl, rfl, rfl, by decide +kernel, rfl, by decide +kernel, by decide +kernel⟩
abbrev s_check_entries : Stmt := topS 41
theorem sc_check_entries : FnScope ["width", "entries", "checked", "index", "entry"] ["width", "entries"] (defScope s_check_entries) := ⟨rfl, rfl, rfl, by decide +kernel, rfl, by decide +kernel, by decide +kernel⟩
abbrev s_turned : Stmt := topS 45
theorem sc_turned : FnScope ["entries", "growth", "result", "entry", "place", "old", "new"] ["entries"] (defScope s_turned) := ⟨rfl, rfl, rfl, by decide +kernel, rfl, by decide +kernel, by decide +kernel⟩
abbrev s_make_link : Stmt := topS 46
theorem sc_make_link : FnScope ["entry", "other", "growth", "place", "old", "new"] ["entry", "other", "growth"] (defScope s_make_link) := ⟨rfl, rfl, rfl, by decide +kernel, rfl, by decide +kernel, by decide +kernel⟩
abbrev s_links : Stmt := topS 47
theorem sc_links : FnScope ["first", "second", "ours", "theirs", "growth", "last", "result", "key", "link", "entry"] ["first", "second"] (defScope s_links) := ⟨rfl, rfl, rfl, by decide +kernel, rfl, by decide +kernel, by decide +kernel⟩
abbrev s_check_rule : Stmt := topS 51
theorem sc_check_rule : FnScope ["by"] ["by"] (defScope s_check_rule) := ⟨rfl, rfl, rfl, by decide +kernel, rfl, by decide +kernel, by decide +kernel⟩
abbrev s_share_base : Stmt := topS 52
theorem sc_share_base : FnScope ["first", "second"] ["first", "second"] (defScope s_share_base) := ⟨rfl, rfl, rfl, by decide +kernel, rfl, by decide +kernel, by decide +kernel⟩
abbrev s_in_conflict : Stmt := topS 53
theorem sc_in_conflict : FnScope ["entry", "other", "by", "changed", "column"] ["entry", "other", "by"] (defScope s_in_conflict) := ⟨rfl, rfl, rfl, by decide +kernel, rfl, by decide +kernel, by decide +kernel⟩
abbrev s_conflicts : Stmt := topS 54
theorem sc_conflicts : FnScope ["first", "second", "by", "result", "entry", "other"] ["first", "second", "by"] (defScope s_conflicts) := ⟨rfl, rfl, rfl, by decide +kernel, rfl, by decide +kernel, by decide +kernel⟩
abbrev s_Layer_init : Stmt := inClass (topS 56) 1
theorem sc_Layer_init : FnScope ["self", "width", "entries", "entry"] ["self", "width", "entries"] (defScope s_Layer_init) := ⟨rfl, rfl, rfl, by decide +kernel, rfl, by decide +kernel, by decide +kernel⟩
abbrev s_Layer_empty : Stmt := inClass (topS 56) 2
theorem sc_Layer_empty : FnScope ["cls", "width"] ["cls", "width"] (defScope s_Layer_empty) := ⟨rfl, rfl, rfl, by decide +kernel, rfl, by decide +kernel, by decide +kernel⟩
abbrev s_Layer_iter : Stmt := inClass (topS 56) 5
theorem sc_Layer_iter : FnScope ["self"] ["self"] (defScope s_Layer_iter) := ⟨rfl, rfl, rfl, by decide +kernel, rfl, by decide +kernel, by decide +kernel⟩
abbrev s_Layer_len : Stmt := inClass (topS 56) 6
theorem sc_Layer_len : FnScope ["self"] ["self"] (defScope s_Layer_len) := ⟨rfl, rfl, rfl, by decide +kernel, rfl, by decide +kernel, by decide +kernel⟩
abbrev s_Layer_entry : Stmt := inClass (topS 56) 10
theorem sc_Layer_entry : FnScope ["self", "key", "at"] ["self", "key"] (defScope s_Layer_entry) := ⟨rfl, rfl, rfl, by decide +kernel, rfl, by decide +kernel, by decide +kernel⟩
abbrev s_moved : Stmt := topS 64
theorem sc_moved : FnScope ["layer", "over", "by", "found", "entry"] ["layer", "over", "by"] (defScope s_moved) := ⟨rfl, rfl, rfl, by decide +kernel, rfl, by decide +kernel, by decide +kernel⟩
abbrev s_merged : Stmt := topS 65
theorem sc_merged : FnScope ["first", "by", "rest", "result", "layer"] ["first", "by", "rest"] (defScope s_merged) := ⟨rfl, rfl, rfl, by decide +kernel, rfl, by decide +kernel, by decide +kernel⟩
abbrev s_can_be_done : Stmt := topS 75
theorem sc_can_be_done : FnScope ["row", "entry", "by", "_", "old", "new", "column"] ["row", "entry", "by"] (defScope s_can_be_done) := ⟨rfl, rfl, rfl, by decide +kernel, rfl, by decide +kernel, by decide +kernel⟩
abbrev s_replay : Stmt := topS 77
theorem sc_replay : FnScope ["table", "layer", "by", "row", "rows", "refused", "entry", "key"] ["table", "layer", "by"] (defScope s_replay) := ⟨rfl, rfl, rfl, by decide +kernel, rfl, by decide +kernel, by decide +kernel⟩
abbrev s_Table_init : Stmt := inClass (topS 73) 1
theorem sc_Table_init : FnScope ["self", "width", "rows", "row"] ["self", "width", "rows"] (defScope s_Table_init) := ⟨rfl, rfl, rfl, by decide +kernel, rfl, by decide +kernel, by decide +kernel⟩
abbrev s_Table_iter : Stmt := inClass (topS 73) 4
theorem sc_Table_iter : FnScope ["self"] ["self"] (defScope s_Table_iter) := ⟨rfl, rfl, rfl, by decide +kernel, rfl, by decide +kernel, by decide +kernel⟩
abbrev s_Table_len : Stmt := inClass (topS 73) 5
theorem sc_Table_len : FnScope ["self"] ["self"] (defScope s_Table_len) := ⟨rfl, rfl, rfl, by decide +kernel, rfl, by decide +kernel, by decide +kernel⟩
abbrev s_Table_rank : Stmt := inClass (topS 73) 8
theorem sc_Table_rank : FnScope ["self", "key"] ["self", "key"] (defScope s_Table_rank) := ⟨rfl, rfl, rfl, by decide +kernel, rfl, by decide +kernel, by decide +kernel⟩
abbrev s_Table_find : Stmt := inClass (topS 73) 9
theorem sc_Table_find : FnScope ["self", "key", "at"] ["self", "key"] (defScope s_Table_find) := ⟨rfl, rfl, rfl, by decide +kernel, rfl, by decide +kernel, by decide +kernel⟩
abbrev s_Stack_init : Stmt := inClass (topS 59) 1
theorem sc_Stack_init : FnScope ["self", "base", "layers", "top", "layer"] ["self", "base", "layers"] (defScope s_Stack_init) := ⟨rfl, rfl, rfl, by decide +kernel, rfl, by decide +kernel, by decide +kernel⟩
abbrev s_History_init : Stmt := inClass (topS 61) 0
theorem sc_History_init : FnScope ["self", "base"] ["self", "base"] (defScope s_History_init) := ⟨rfl, rfl, rfl, by decide +kernel, rfl, by decide +kernel, by decide +kernel⟩
abbrev s_Store_init : Stmt := inClass (topS 67) 0
theorem sc_Store_init : FnScope ["self", "table", "by"] ["self", "table", "by"] (defScope s_Store_init) := ⟨rfl, rfl, rfl, by decide +kernel, rfl, by decide +kernel, by decide +kernel⟩
abbrev s_Store_by : Stmt := inClass (topS 67) 1
theorem sc_Store_by : FnScope ["self"] ["self"] (defScope s_Store_by) := ⟨rfl, rfl, rfl, by decide +kernel, rfl, by decide +kernel, by decide +kernel⟩
abbrev s_Store_by_set : Stmt := inClass (topS 67) 2
theorem sc_Store_by_set : FnScope ["self", "rule"] ["self", "rule"] (defScope s_Store_by_set) := ⟨rfl, rfl, rfl, by decide +kernel, rfl, by decide +kernel, by decide +kernel⟩
abbrev s_Store_use_rule : Stmt := inClass (topS 67) 3
theorem sc_Store_use_rule : FnScope ["self", "rule"] ["self", "rule"] (defScope s_Store_use_rule) := ⟨rfl, rfl, rfl, by decide +kernel, rfl, by decide +kernel, by decide +kernel⟩
abbrev s_Desk_init : Stmt := inClass (topS 69) 0
theorem sc_Desk_init : FnScope ["self", "table", "by"] ["self", "table", "by"] (defScope s_Desk_init) := ⟨rfl, rfl, rfl, by decide +kernel, rfl, by decide +kernel, by decide +kernel⟩
abbrev s__law_take : Stmt := topS 79
theorem sc__law_take : FnScope ["script", "box", "limit", "cell", "left", "value"] ["script", "box", "limit"] (defScope s__law_take) := ⟨rfl, rfl, rfl, by decide +kernel, rfl, by decide +kernel, by decide +kernel⟩
abbrev s__law_number : Stmt := topS 80
theorem sc__law_number : FnScope ["script", "box", "pick", "far"] ["script", "box"] (defScope s__law_number) := ⟨rfl, rfl, rfl, by decide +kernel, rfl, by decide +kernel, by decide +kernel⟩
abbrev s__law_width : Stmt := topS 81
theorem sc__law_width : FnScope ["script", "box", "width"] ["script", "box"] (defScope s__law_width) := ⟨rfl, rfl, rfl, by decide +kernel, rfl, by decide +kernel, by decide +kernel⟩
abbrev s__law_text : Stmt := topS 82
theorem sc__law_text : FnScope ["script", "box", "first", "text", "pick"] ["script", "box"] (defScope s__law_text) := ⟨rfl, rfl, rfl, by decide +kernel, rfl, by decide +kernel, by decide +kernel⟩
abbrev s__law_call : Stmt := topS 83
theorem sc__law_call : FnScope ["door", "text", "width", "row", "store", "table", "one", "other", "wide"] ["door", "text", "width", "row", "store"] (defScope s__law_call) := ⟨rfl, rfl, rfl, by decide +kernel, rfl, by decide +kernel, by decide +kernel⟩
abbrev s__law_told : Stmt := topS 84
theorem sc__law_told : FnScope ["door", "text", "width", "row", "store", "told", "e"] ["door", "text", "width", "row", "store"] (defScope s__law_told) := ⟨rfl, rfl, rfl, by decide +kernel, rfl, by decide +kernel, by decide +kernel⟩
abbrev s__law_doors : Stmt := topS 85
theorem sc__law_doors : FnScope ["text", "width", "row", "store", "good", "dues", "door", "before", "told"] ["text", "width", "row", "store"] (defScope s__law_doors) := ⟨rfl, rfl, rfl, by decide +kernel, rfl, by decide +kernel, by decide +kernel⟩
abbrev s_law : Stmt := topS 86
theorem sc_law : FnScope ["script", "box", "width", "row", "store", "turn", "c"] ["script"] (defScope s_law) := ⟨rfl, rfl, rfl, by decide +kernel, rfl, by decide +kernel, by decide +kernel⟩
abbrev s_InvalidRule_init : Stmt := inClass (topS 13) 0
abbrev s_DifferentWidth_init : Stmt := inClass (topS 9) 0
abbrev s_Conflict_init : Stmt := inClass (topS 14) 0
structure Top (K : Fg) (mg : Str → Option Value) : Prop where
  f_is_integer : IsDef K mg "is_integer" s_is_integer
  f_count_below : IsDef K mg "count_below" s_count_below
  f_check_width : IsDef K mg "check_width" s_check_width
  f_is_row : IsDef K mg "is_row" s_is_row
  f_check_rows : IsDef K mg "check_rows" s_check_rows
  f_is_entry : IsDef K mg "is_entry" s_is_entry
  f_entry_key : IsDef K mg "entry_key" s_entry_key
  f_entry_growth : IsDef K mg "entry_growth" s_entry_growth
  f_gap_size : IsDef K mg "gap_size" s_gap_size
  f_in_order : IsDef K mg "in_order" s_in_order
  f_check_entries : IsDef K mg "check_entries" s_check_entries
  f_turned : IsDef K mg "turned" s_turned
  f_make_link : IsDef K mg "make_link" s_make_link
  f_links : IsDef K mg "links" s_links
  f_check_rule : IsDef K mg "check_rule" s_check_rule
  f_share_base : IsDef K mg "share_base" s_share_base
  f_in_conflict : IsDef K mg "in_conflict" s_in_conflict
  f_conflicts : IsDef K mg "conflicts" s_conflicts
  f_moved : IsDef K mg "moved" s_moved
  f_merged : IsDef K mg "merged" s_merged
  f_can_be_done : IsDef K mg "can_be_done" s_can_be_done
  f_replay : IsDef K mg "replay" s_replay
  f__law_take : IsDef K mg "_law_take" s__law_take
  f__law_number : IsDef K mg "_law_number" s__law_number
  f__law_width : IsDef K mg "_law_width" s__law_width
  f__law_text : IsDef K mg "_law_text" s__law_text
  f__law_call : IsDef K mg "_law_call" s__law_call
  f__law_told : IsDef K mg "_law_told" s__law_told
  f__law_doors : IsDef K mg "_law_doors" s__law_doors
  f_law : IsDef K mg "law" s_law
  g_Layer : mg "Layer" = some (.ref (He.ga K "Layer"))
  c_Layer : SlX.SCls K (He.ga K "Layer")
  s_Layer__entries : SlX.Slot1 K (He.ga K "Layer") "_entries" (He.ma K (He.ga K "Layer") "_entries") 0
  s_Layer__key_list : SlX.Slot1 K (He.ga K "Layer") "_key_list" (He.ma K (He.ga K "Layer") "_key_list") 1
  s_Layer_width : SlX.Slot1 K (He.ga K "Layer") "width" (He.ma K (He.ga K "Layer") "width") 2
  i_Layer : IsInit K "Layer" "Layer.__init__" s_Layer_init [.ref (dfAd "Layer" K)]
  e_Layer : ∀ H : Hp, SqT K H (dfAd "Layer" K) []
  cm_Layer_empty : IsCm K "Layer" "empty" "Layer.empty" s_Layer_empty
  m_Layer_iter : IsMet K "Layer" "__iter__" "Layer.__iter__" s_Layer_iter
  m_Layer_len : IsMet K "Layer" "__len__" "Layer.__len__" s_Layer_len
  m_Layer_entry : IsMet K "Layer" "entry" "Layer.entry" s_Layer_entry
  g_Table : mg "Table" = some (.ref (He.ga K "Table"))
  c_Table : SlX.SCls K (He.ga K "Table")
  s_Table__key_list : SlX.Slot1 K (He.ga K "Table") "_key_list" (He.ma K (He.ga K "Table") "_key_list") 0
  s_Table__rows : SlX.Slot1 K (He.ga K "Table") "_rows" (He.ma K (He.ga K "Table") "_rows") 1
  s_Table_width : SlX.Slot1 K (He.ga K "Table") "width" (He.ma K (He.ga K "Table") "width") 2
  i_Table : IsInit K "Table" "Table.__init__" s_Table_init [.ref (dfAd "Table" K)]
  e_Table : ∀ H : Hp, SqT K H (dfAd "Table" K) []
  m_Table_iter : IsMet K "Table" "__iter__" "Table.__iter__" s_Table_iter
  m_Table_len : IsMet K "Table" "__len__" "Table.__len__" s_Table_len
  m_Table_rank : IsMet K "Table" "rank" "Table.rank" s_Table_rank
  m_Table_find : IsMet K "Table" "find" "Table.find" s_Table_find
  g_Stack : mg "Stack" = some (.ref (He.ga K "Stack"))
  c_Stack : SlX.SCls K (He.ga K "Stack")
  s_Stack__layers : SlX.Slot1 K (He.ga K "Stack") "_layers" (He.ma K (He.ga K "Stack") "_layers") 0
  s_Stack_base : SlX.Slot1 K (He.ga K "Stack") "base" (He.ma K (He.ga K "Stack") "base") 1
  s_Stack_width : SlX.Slot1 K (He.ga K "Stack") "width" (He.ma K (He.ga K "Stack") "width") 2
  i_Stack : IsInit K "Stack" "Stack.__init__" s_Stack_init [.ref (dfAd "Stack" K)]
  e_Stack : ∀ H : Hp, SqT K H (dfAd "Stack" K) []
  g_History : mg "History" = some (.ref (He.ga K "History"))
  c_History : Cls K (He.ga K "History")
  n_History__stack : NoAttr K (He.ga K "History") "_stack"
  n_History__numbers : NoAttr K (He.ga K "History") "_numbers"
  i_History : IsInit K "History" "History.__init__" s_History_init []
  g_Store : mg "Store" = some (.ref (He.ga K "Store"))
  c_Store : Cls K (He.ga K "Store")
  n_Store__by : NoAttr K (He.ga K "Store") "_by"
  n_Store__history : NoAttr K (He.ga K "Store") "_history"
  n_Store__pins : NoAttr K (He.ga K "Store") "_pins"
  i_Store : IsInit K "Store" "Store.__init__" s_Store_init []
  p_Store_by : IsProp K "Store" "by" "Store.by" s_Store_by
  q_Store_by : IsSet K "Store" "by" "Store.by" s_Store_by_set
  m_Store_use_rule : IsMet K "Store" "use_rule" "Store.use_rule" s_Store_use_rule
  g_Desk : mg "Desk" = some (.ref (He.ga K "Desk"))
  c_Desk : Cls K (He.ga K "Desk")
  n_Desk_store : NoAttr K (He.ga K "Desk") "store"
  n_Desk__named : NoAttr K (He.ga K "Desk") "_named"
  i_Desk : IsInit K "Desk" "Desk.__init__" s_Desk_init []
  g_DoesNotFollow : mg "DoesNotFollow" = some (.ref (He.ga K "DoesNotFollow"))
  x_DoesNotFollow : IsExc0 K "DoesNotFollow" []
  g_NoCommonBase : mg "NoCommonBase" = some (.ref (He.ga K "NoCommonBase"))
  x_NoCommonBase : IsExc0 K "NoCommonBase" []
  g_InvalidRule : mg "InvalidRule" = some (.ref (He.ga K "InvalidRule"))
  x_InvalidRule : Exc1 PR K mg "InvalidRule" "rule" (He.ga K "InvalidRule")
  g_DifferentWidth : mg "DifferentWidth" = some (.ref (He.ga K "DifferentWidth"))
  x_DifferentWidth : Exc2 PR K mg "DifferentWidth" "first" "second" (He.ga K "DifferentWidth")
  g_Conflict : mg "Conflict" = some (.ref (He.ga K "Conflict"))
  x_Conflict : Exc1 PR K mg "Conflict" "conflicts" (He.ga K "Conflict")
  ex_InvalidRule_InvalidRule : PySem.W.exmOne K (.ref (He.ga K "InvalidRule")) (.ref (He.ga K "InvalidRule")) = some true
  ex_InvalidRule_DifferentWidth : PySem.W.exmOne K (.ref (He.ga K "InvalidRule")) (.ref (He.ga K "DifferentWidth")) = some false
  ex_InvalidRule_NoCommonBase : PySem.W.exmOne K (.ref (He.ga K "InvalidRule")) (.ref (He.ga K "NoCommonBase")) = some false
  ex_InvalidRule_Conflict : PySem.W.exmOne K (.ref (He.ga K "InvalidRule")) (.ref (He.ga K "Conflict")) = some false
  ex_DifferentWidth_InvalidRule : PySem.W.exmOne K (.ref (He.ga K "DifferentWidth")) (.ref (He.ga K "InvalidRule")) = some false
  ex_DifferentWidth_DifferentWidth : PySem.W.exmOne K (.ref (He.ga K "DifferentWidth")) (.ref (He.ga K "DifferentWidth")) = some true
  ex_DifferentWidth_NoCommonBase : PySem.W.exmOne K (.ref (He.ga K "DifferentWidth")) (.ref (He.ga K "NoCommonBase")) = some false
  ex_DifferentWidth_Conflict : PySem.W.exmOne K (.ref (He.ga K "DifferentWidth")) (.ref (He.ga K "Conflict")) = some false
  ex_NoCommonBase_InvalidRule : PySem.W.exmOne K (.ref (He.ga K "NoCommonBase")) (.ref (He.ga K "InvalidRule")) = some false
  ex_NoCommonBase_DifferentWidth : PySem.W.exmOne K (.ref (He.ga K "NoCommonBase")) (.ref (He.ga K "DifferentWidth")) = some false
  ex_NoCommonBase_NoCommonBase : PySem.W.exmOne K (.ref (He.ga K "NoCommonBase")) (.ref (He.ga K "NoCommonBase")) = some true
  ex_NoCommonBase_Conflict : PySem.W.exmOne K (.ref (He.ga K "NoCommonBase")) (.ref (He.ga K "Conflict")) = some false
  ex_Conflict_InvalidRule : PySem.W.exmOne K (.ref (He.ga K "Conflict")) (.ref (He.ga K "InvalidRule")) = some false
  ex_Conflict_DifferentWidth : PySem.W.exmOne K (.ref (He.ga K "Conflict")) (.ref (He.ga K "DifferentWidth")) = some false
  ex_Conflict_NoCommonBase : PySem.W.exmOne K (.ref (He.ga K "Conflict")) (.ref (He.ga K "NoCommonBase")) = some false
  ex_Conflict_Conflict : PySem.W.exmOne K (.ref (He.ga K "Conflict")) (.ref (He.ga K "Conflict")) = some true
  ex_DoesNotFollow_DoesNotFollow : PySem.W.exmOne K (.ref (He.ga K "DoesNotFollow")) (.ref (He.ga K "DoesNotFollow")) = some true
  xf_InvalidRule : XfC K (He.ga K "InvalidRule")
  nf_InvalidRule_rule : PySem.W.findIn K (.ref (He.ga K "InvalidRule")) "rule" = some none
  g_RULES : mg "RULES" = some (.ref (He.ga K "RULES"))
  t_RULES : ∀ H : Hp, SqT K H (He.ga K "RULES") [.str "row", .str "column"]
  b_isinstance : mg "isinstance" = none
  b_int : mg "int" = none
  b_bool : mg "bool" = none
  b_tuple : mg "tuple" = none
  b_len : mg "len" = none
  b_all : mg "all" = none
  b_any : mg "any" = none
  b_enumerate : mg "enumerate" = none
  b_range : mg "range" = none
  b_sorted : mg "sorted" = none
  b_iter : mg "iter" = none
  b_list : mg "list" = none
  b_abs : mg "abs" = none
  b_str : mg "str" = none
end Kx


end

section
set_option Elab.async false
set_option linter.all false
set_option maxRecDepth 100000
set_option maxHeartbeats 4000000
namespace Kx
open PySem PySem.Spec PyProof.Rows L2 Evl Pl
/-! ### small defs -/
def spIsInt : Sp := fun vs H Q _ => ∃ n : Int, vs = [.int n] ∧ Q (.bl true) H
theorem ok_is_integer {w : World} {K : Fg} {mg : Str → Option Value} {base : Heap} (T : Top K mg)  : FnA PR w K mg base 1 (He.ga K "is_integer") [] (spIsInt) := by
  obtain ⟨_, fd, F⟩ := T.f_is_integer
  refine fna_d0 F sc_is_integer (fun vs H Q E h => ?_) (fun _ _ _ _ _ _ us hl => match us, hl with | [_], _ => rfl) (fun cdv A outer s H vs Q E hr h => ?_)
  · obtain ⟨n, rfl, hQ⟩ := h; rfl
  obtain ⟨n, rfl, hQ⟩ := h
  refine ⟨_, (pss_one (ps_ret (pe_and (pe_callB call_isi (by rfl) T.b_isinstance (by decide +kernel) (pa_cons (pv 0) (pa_cons (pe_bltn (v := .ty "int") (u := .type "int") (by rfl) T.b_int (by decide +kernel) rfl) pa_nil))) (pe_one (pe_not (pe_callB call_isi (by rfl) T.b_isinstance (by decide +kernel) (pa_cons (pv 0) (pa_cons (pe_bltn (v := .ty "bool") (u := .type "bool") (by rfl) T.b_bool (by decide +kernel) rfl) pa_nil)))))))), ?_⟩
  refine ⟨_, rfl, _, _, _, _, _, rfl, .ty _, tyI, kit_ii, true, rfl, ?_⟩
  refine ⟨_, rfl, _, _, _, _, _, rfl, .ty _, tyI, kit_ib, false, rfl, hQ⟩
def spCount (K : Fg) : Sp := fun vs H Q _ => ∃ (a : Addr) (ns : List Int) (b : Int), vs = [.ref a, .int b] ∧ SqL K H a (vis ns) ∧ ns.Pairwise (· < ·) ∧ ∀ k : Nat, Cut ns b k → Q (.int (k : Int)) H
theorem ok_count_below {w : World} {K : Fg} {mg : Str → Option Value} {base : Heap} (T : Top K mg)  : FnA PR w K mg base 1 (He.ga K "count_below") [] ((spCount K)) := by
  obtain ⟨_, fd, F⟩ := T.f_count_below
  refine fna_d0 F sc_count_below (fun vs H Q E h => ?_) (fun _ _ _ _ _ _ us hl => match us, hl with | [_, _], _ => rfl) (fun cdv A outer s H vs Q E hr h => ?_)
  · obtain ⟨a, ns, b, rfl, hS, hp, hQ⟩ := h; rfl
  obtain ⟨a, ns, b, rfl, hS, hp, hQ⟩ := h
  refine ⟨_, (pss_cons (ps_set (i := 2) sc_count_below.nd rfl (Or.inl rfl) pe_int)
    (pss_cons (ps_set (i := 3) sc_count_below.nd rfl (Or.inl rfl) (pe_callB call_len_seq (by rfl) T.b_len (by decide +kernel) (pa_cons (pv 0) pa_nil)))
    (pss_cons (ps_while poOf (pt_cmpR op_lt (pv 2) (pv 3) (nomark _)) (pss_cons (ps_set (i := 4) sc_count_below.nd rfl (Or.inl rfl) (pe_op op_fdiv (pe_op op_add (pv 2) (pv 3)) pe_int))
    (pss_one (ps_if (pt_cmpR op_lt (pe_ix ix_list (pv 0) (pv 4) (fun _ _ => rfl)) (pv 1) (nomark _)) (pss_one (ps_set (i := 2) sc_count_below.nd rfl (Or.inl rfl) (pe_op op_add (pv 4) pe_int))) (pss_one (ps_set (i := 3) sc_count_below.nd rfl (Or.inl rfl) (pv 4)))))))
    (pss_one (ps_ret (pv 2)))))), ?_⟩
  refine ⟨_, rfl, _, _, rfl, .inl hS, ?_⟩
  refine ⟨fun m σ H' => H' = H ∧ ∃ (lo hi : Int) (mid : Option V), σ = [some (.ref a), some (.int b), some (.int lo), some (.int hi), mid] ∧ 0 ≤ lo ∧ lo ≤ hi ∧ hi ≤ (ns.length : Int) ∧ m = (hi - lo).toNat ∧
    (∀ (i : Nat) x, ns[i]? = some x → (i : Int) < lo → x < b) ∧ ∀ (i : Nat) x, ns[i]? = some x → hi ≤ (i : Int) → ¬ x < b, ⟨_, rfl, 0, (ns.length : Int), none, by rw [← vis_len ns]; rfl, by omega, by omega, by omega, rfl, fun i x _ h => by omega, fun i x h1 h2 => ?_⟩, ?_⟩
  · have := (List.getElem?_eq_some_iff.mp h1).1
    omega
  rintro m σ H' ⟨rfl, lo, hi, mid, rfl, h0, h1, h2, rfl, hl, hh⟩
  refine ⟨_, rfl, _, rfl, _, _, rfl, rfl, _, rfl, ?_⟩
  refine ite2 (fun h => ?_) fun h => ?_
  · have hlt : lo < hi := of_decide_eq_true h
    refine ⟨_, fun _ _ z => z, ?_⟩
    refine ⟨_, rfl, _, rfl, _, _, rfl, rfl, _, _, rfl, rfl, ⟨by decide, by decide⟩, ?_⟩
    have e1 : lo ≤ (lo + hi) / 2 := by omega
    have e2 : (lo + hi) / 2 < hi := by omega
    have e3 : ((lo + hi) / 2).toNat < ns.length := by omega
    have hx : ns[((lo + hi) / 2).toNat]? = some ns[((lo + hi) / 2).toNat] := List.getElem?_eq_getElem e3
    refine ⟨_, rfl, _, rfl, _, _, _, _, rfl, rfl, hS, atI_int (by omega) (vis_get hx), _, rfl, _, _, rfl, rfl, _, rfl, ?_⟩
    refine ite2 (fun h => ?_) fun h => ?_
    · have hb : ns[((lo + hi) / 2).toNat] < b := of_decide_eq_true h
      refine ⟨_, rfl, _, _, rfl, rfl, _, ?_, rfl, _, _, _, rfl, by omega, by omega, h2, rfl, fun i x hi2 hlt2 => ?_, hh⟩
      · omega
      · rcases Nat.lt_trichotomy i ((lo + hi) / 2).toNat with z | z | z
        · have := pw_get hp hi2 hx z
          omega
        · subst z
          rw [hx] at hi2
          have := Option.some.inj hi2
          omega
        · omega
    · have hb : ¬ ns[((lo + hi) / 2).toNat] < b := fun z => h (decide_eq_true z)
      refine ⟨_, rfl, _, ?_, rfl, _, _, _, rfl, h0, by omega, by omega, rfl, hl, fun i x hi2 hle => ?_⟩
      · omega
      · rcases Nat.lt_trichotomy i ((lo + hi) / 2).toNat with z | z | z
        · omega
        · subst z
          rw [hx] at hi2
          have := Option.some.inj hi2
          omega
        · have := pw_get hp hx hi2 z
          omega
  · have hle : lo = hi := by
      have : ¬ lo < hi := fun z => h (decide_eq_true z)
      omega
    subst hle
    have q := hQ lo.toNat ⟨by omega, fun i x hx => ⟨fun z => hl i x hx (by omega), fun z => Nat.lt_of_not_le fun q => hh i x hx (by omega) z⟩⟩
    rw [Int.toNat_of_nonneg h0] at q
    exact ⟨_, rfl, q⟩

end Kx

end

section
set_option Elab.async false
set_option linter.all false
set_option maxRecDepth 100000
set_option maxHeartbeats 4000000
namespace Kx
open PySem PySem.Spec PyProof.Rows L2 Evl Pl
def spCheckWidth : Sp := fun vs H Q _ => ∃ n : Int, vs = [.int n] ∧ 1 ≤ n ∧ Q .non H
theorem ok_check_width {w : World} {K : Fg} {mg : Str → Option Value} {base : Heap} (T : Top K mg) (D_is_integer : Df PR w K mg base 1 "is_integer" [] spIsInt) : FnA PR w K mg base 2 (He.ga K "check_width") [] (spCheckWidth) := by
  obtain ⟨_, fd, F⟩ := T.f_check_width
  refine fna_d0 F sc_check_width (fun vs H Q E h => ?_) (fun _ _ _ _ _ _ us hl => match us, hl with | [_], _ => rfl) (fun cdv A outer s H vs Q E hr h => ?_)
  · obtain ⟨n, rfl, hw, hQ⟩ := h; rfl
  obtain ⟨n, rfl, hw, hQ⟩ := h
  refine ⟨_, (pss_one (ps_if (PW.pt (pw_or (pt_not (pt_val (pe_df D_is_integer (hr.mono (by decide)) (by rfl) passLA (pa_cons (pv 0) pa_nil)))) (pw_or1 (pt_cmpR op_lt (pv 0) pe_int (nomark _))))) (pss_one ps_never) pss_nil)), ?_⟩
  refine ⟨_, rfl, _, rfl, true, rfl, ?_⟩
  refine iteF ⟨_, rfl, _, _, rfl, rfl, _, rfl, ?_⟩
  exact ite2 (fun h => absurd (of_decide_eq_true h) (by omega)) fun _ => hQ
def spIsRow (K : Fg) : Sp := fun vs H Q _ => ∃ (a : Addr) (r : Rwv) (n : Int), vs = [.ref a, .int n] ∧ SqT K H a (vis r) ∧ r.length ≤ 100000 ∧ ∀ H', Ex H H' → Q (.bl (decide ((r.length : Int) = n))) H'
theorem ok_is_row {w : World} {K : Fg} {mg : Str → Option Value} {base : Heap} (T : Top K mg) (D_is_integer : Df PR w K mg base 1 "is_integer" [] spIsInt) : FnA PR w K mg base 2 (He.ga K "is_row") [] ((spIsRow K)) := by
  obtain ⟨_, fd, F⟩ := T.f_is_row
  refine fna_d0 F sc_is_row (fun vs H Q E h => ?_) (fun _ _ _ _ _ _ us hl => match us, hl with | [_, _], _ => rfl) (fun cdv A outer s H vs Q E hr h => ?_)
  · obtain ⟨a, r, n, rfl, hS, hz, hQ⟩ := h; rfl
  obtain ⟨a, r, n, rfl, hS, hz, hQ⟩ := h
  refine ⟨_, (pss_cons (ps_if (PW.pt (pw_or (pt_not (pt_val (pe_callB call_isi (by rfl) T.b_isinstance (by decide +kernel) (pa_cons (pv 0) (pa_cons (pe_bltn (v := .ty "tuple") (u := .type "tuple") (by rfl) T.b_tuple (by decide +kernel) rfl) pa_nil))))) (pw_or1 (pt_cmpR op_ne (pe_callB call_len_seq (by rfl) T.b_len (by decide +kernel) (pa_cons (pv 0) pa_nil)) (pv 1) (nomark _))))) (pss_one (ps_ret pe_bl)) pss_nil)
    (pss_one (ps_ret (pe_callB (cr_all rfl) (by rfl) T.b_all (by decide +kernel) (pa_cons (pe_lc (own := [("number", 2)]) (g := gName 2) (tt := tYes) rfl sc_is_row.nd (pi_tup (pv 0)) (blkOk_by (own := [("number", 2)]) (N := ["value", "width", "number"]) (sc := defScope s_is_row) (by decide +kernel)) (fun _ _ _ _ _ => (pg_name (i := 2) sc_is_row.nd rfl (Or.inl rfl))) (fun _ _ _ _ _ => pts_nil) (fun _ _ _ _ _ => (pe_df D_is_integer (hr.mono (by decide)) (by rfl) passLA (pa_cons (pv 2) pa_nil)))) pa_nil))))), ?_⟩
  refine ⟨_, rfl, _, _, _, _, _, rfl, .ty _, tyT hS, kit_tt, true, rfl, ?_⟩
  refine iteF ⟨_, rfl, _, _, rfl, .inr hS, _, rfl, rfl, _, rfl, ?_⟩
  by_cases hl : (r.length : Int) = n
  · refine iteNS (by rw [vis_len, hl]) ?_
    refine ⟨_, rfl, a, rfl, ⟨_, hS⟩, fun D hD => ?_⟩
    refine lc_mapNT (ys := (List.replicate r.length true).map V.bl) hS (by rw [vis_len]; exact szK hz) hD (by simp) (fun _ => rfl) (fun i x y H2 Q' hx hy e k => ?_) fun H2 e hy => ?_
    · rw [List.getElem?_map] at hx hy
      obtain ⟨z, hz1, ez⟩ := Option.map_eq_some_iff.mp hx
      obtain ⟨u, hu1, eu⟩ := Option.map_eq_some_iff.mp hy
      have e2 : u = true := by
        have := List.mem_of_getElem? hu1
        rw [List.mem_replicate] at this
        exact this.2
      subst ez eu e2
      exact ⟨_, rfl, z, rfl, k H2 (Ex.refl _)⟩
    · refine ⟨_, List.replicate r.length true, rfl, sq_of hy, ?_⟩
      have q := hQ H2 e
      have e1 : (List.replicate r.length true).all id = true := by simp
      rw [decide_eq_true hl] at q
      rw [e1]
      exact q
  · refine ite2 (fun _ => ?_) fun h => absurd (show (!decide (V.int ((vis r).length : Int) = V.int n)) = true by rw [vis_len, decide_eq_false (by intro z; injection z with z; exact hl z)]; rfl) h
    have q := hQ H (Ex.refl _)
    rw [decide_eq_false hl] at q
    exact q
def spCheckRows (K : Fg) : Sp := fun vs H Q _ => ∃ (L : Bool) (a : Addr) (us : List V) (rs : List Rwv) (n : Nat), vs = [.int (n : Int), .ref a] ∧ EnS K L a us H ∧ All2 (VR K H) us rs ∧ 1 ≤ n ∧ n ≤ 1000 ∧ RowsOk n rs ∧ rs.length ≤ 100000 ∧
  ∀ l H', H l = none → Ex H H' → H' l = some (.lst us) → Q (.ref l) H'
theorem ok_check_rows {w : World} {K : Fg} {mg : Str → Option Value} {base : Heap} (T : Top K mg) (D_is_row : Df PR w K mg base 2 "is_row" [] (spIsRow K)) : FnA PR w K mg base 3 (He.ga K "check_rows") [] ((spCheckRows K)) := by
  obtain ⟨_, fd, F⟩ := T.f_check_rows
  refine fna_d0 F sc_check_rows (fun vs H Q E h => ?_) (fun _ _ _ _ _ _ us hl => match us, hl with | [_, _], _ => rfl) (fun cdv A outer s H vs Q E hr h => ?_)
  · obtain ⟨L, a, us, rs, n, rfl, hS, hv, hn, hn2, ok, hz, hQ⟩ := h; rfl
  obtain ⟨L, a, us, rs, n, rfl, hS, hv, hn, hn2, ok, hz, hQ⟩ := h
  refine ⟨_, (pss_cons (ps_set (i := 2) sc_check_rows.nd rfl (Or.inl rfl) (pe_lst pa_nil))
    (pss_cons (ps_for poOf rfl (pi_enA (by rfl) T.b_enumerate (pa_cons (pv 1) pa_nil)) (pg_tup (by rfl) (pgs_cons (pg_name (i := 3) sc_check_rows.nd rfl (Or.inl rfl)) (pgs_cons (pg_name (i := 4) sc_check_rows.nd rfl (Or.inl rfl)) pgs_nil))) (pss_cons (ps_if (pt_not (pt_val (pe_df D_is_row (hr.mono (by decide)) (by rfl) passLA (pa_cons (pv 4) (pa_cons (pv 0) pa_nil))))) (pss_one ps_never) pss_nil)
    (pss_cons (ps_if (PW.pt (pw_and (pt_cmpR op_gt (pv 3) pe_int (nomark _)) (pw_and1 (pt_cmpR op_le (pe_ix ix_tup (pv 4) pe_int (fun _ _ => rfl)) (pe_ix ix_tup (pe_ix ix_list (pv 2) (pe_un un_neg pe_int) (fun _ _ => rfl)) pe_int (fun _ _ => rfl)) (nomark _))))) (pss_one ps_never) pss_nil)
    (pss_one (ps_expr (pe_bm PySem.F.plainAttrs_list PySem.F.slot_list_append PySem.F.type_list_append mt_append (pv 2) (pa_cons (pv 4) pa_nil)))))))
    (pss_one (ps_ret (pv 2))))), ?_⟩
  refine ⟨Nat.zero_le _, fun D hD => ?_⟩
  refine ⟨_, rfl, L, a, us, rfl, enS_ex (Ex.new hD) hS, ?_⟩
  refine for_enA (K := K) (L := L) (a := a) (xs := us) (fun i σ H' => Ex H H' ∧ H' D = some (.lst (us.take i)) ∧ ∃ m1 m2, σ = [some (.int (n : Int)), some (.ref a), some (.ref D), m1, m2]) ⟨Ex.new hD, upd_same, _, _, rfl⟩ (fun i σ H' _ p => enS_ex p.1 hS) ?_ ?_
  · rintro i x σ H' hx ⟨e, hD', m1, m2, rfl⟩ T hT
    refine ⟨T, _, rfl, st_of upd_same, rfl, _, _, rfl, _, _, rfl, rfl, ?_⟩
    obtain ⟨r, hr0, hvr⟩ := hv.get hx
    obtain ⟨b, rfl, hb0⟩ := hvr
    have e1 : Ex H (upd H' T (.tup [.int (i : Nat), .ref b])) := e.trans (Ex.new hT)
    have hb1 := ex_t e1 hb0
    have rok : RowOk n r := ok.all r (List.mem_of_getElem? hr0)
    have hTD : D ≠ T := ne_of_none hD' hT
    refine ⟨_, rfl, _, rfl, b, r, (n : Int), rfl, hb1, by rw [show r.length = n from rok]; omega, fun H2 e2 => ⟨_, rfl, ?_⟩⟩
    refine iteNS (by rw [show r.length = n from rok]) ?_
    have hD2 : H2 D = some (.lst (us.take i)) := e2 _ _ (by rw [upd_ne hTD]; exact hD')
    have eH2 := e1.trans e2
    refine ⟨_, rfl, _, _, rfl, rfl, _, rfl, ?_⟩
    refine (fun fin => ite2 (fun h => ?_) fun _ => iteF fin) ?_
    · have hi : 0 < i := by have := of_decide_eq_true h; omega
      obtain ⟨j, rfl⟩ : ∃ j, i = j + 1 := ⟨i - 1, by omega⟩
      have hlt := (List.getElem?_eq_some_iff.mp hx).1
      have hy : us[j]? = some us[j] := List.getElem?_eq_getElem (by omega)
      obtain ⟨r', hr1, hvr'⟩ := hv.get hy
      obtain ⟨b', eb, hb'⟩ := hvr'
      have rok' : RowOk n r' := ok.all r' (List.mem_of_getElem? hr1)
      refine ⟨_, rfl, _, _, _, _, rfl, rfl, ex_t e2 hb1, atI0 (row0 rok hn), ?_⟩
      refine ⟨_, rfl, _, rfl, _, _, _, _, rfl, rfl, sq_of hD2, atI_take hy, ?_⟩
      refine ⟨_, _, _, _, eb, rfl, ex_t eH2 hb', atI0 (row0 rok' hn), _, _, rfl, rfl, _, rfl, ?_⟩
      refine ifF (decide_eq_false ?_) fin
      have hk := pw_get ok.ord (i := j) (j := j + 1) (x := r'.key) (y := r.key) (by rw [List.getElem?_map, hr1]; rfl) (by rw [List.getElem?_map, hr0]; rfl) (by omega)
      omega
    · refine ⟨_, rfl, .inl ⟨rfl, _, sq_of hD2⟩, _, rfl, D, _, _, rfl, rfl, hD2, ?_, ?_⟩
      · have hlt := (List.getElem?_eq_some_iff.mp hx).1
        rw [List.length_take]
        have := hv.len
        exact Nat.lt_of_le_of_lt (Nat.min_le_left _ _) (szK (by omega))
      · exact ⟨Ex.mut eH2 hD, by rw [upd_same, take_snoc hx], _, _, rfl⟩
  · rintro σ H' ⟨e, hD', m1, m2, rfl⟩
    rw [List.take_length] at hD'
    exact ⟨_, rfl, hQ D H' hD e hD'⟩

end Kx

end

section
set_option Elab.async false
set_option linter.all false
set_option maxRecDepth 100000
set_option maxHeartbeats 4000000
namespace Kx
open PySem PySem.Spec PyProof.Rows L2 Evl Pl
/-! ### entries -/
def spKey (K : Fg) : Sp := fun vs H Q _ => ∃ (v : V) (e : Ent) (n : Nat), vs = [v] ∧ VE K H v e ∧ KeyOk n e ∧ 1 ≤ n ∧ Q (.int e.key) H
theorem ok_entry_key {w : World} {K : Fg} {mg : Str → Option Value} {base : Heap} (T : Top K mg)  : FnA PR w K mg base 1 (He.ga K "entry_key") [] ((spKey K)) := by
  obtain ⟨_, fd, F⟩ := T.f_entry_key
  refine fna_d0 F sc_entry_key (fun vs H Q E h => ?_) (fun _ _ _ _ _ _ us hl => match us, hl with | [_], _ => rfl) (fun cdv A outer s H vs Q E hr h => ?_)
  · obtain ⟨v, e, n, rfl, ⟨a, x, y, rfl, hS, hx, hy⟩, ok, hn, hQ⟩ := h; rfl
  obtain ⟨v, e, n, rfl, ⟨a, x, y, rfl, hS, hx, hy⟩, ok, hn, hQ⟩ := h
  refine ⟨_, (pss_cons (ps_asg (pv 0) (pg_tup (by rfl) (pgs_cons (pg_name (i := 1) sc_entry_key.nd rfl (Or.inl rfl)) (pgs_cons (pg_name (i := 2) sc_entry_key.nd rfl (Or.inl rfl)) (pgs_cons (pg_name (i := 3) sc_entry_key.nd rfl (Or.inl rfl)) pgs_nil)))))
    (pss_cons (ps_if (pt_cmpR op_isN (pv 2) pe_non (nomark _)) (pss_one (ps_ret (pe_ix ix_tup (pv 3) pe_int (fun _ _ => rfl)))) pss_nil)
    (pss_one (ps_ret (pe_ix ix_tup (pv 2) pe_int (fun _ _ => rfl)))))), ?_⟩
  refine ⟨_, rfl, a, _, rfl, hS, rfl, _, _, rfl, _, _, rfl, _, _, rfl, rfl, ?_⟩
  refine ⟨_, rfl, rfl, _, rfl, ?_⟩
  rw [hx.isN]
  cases ho : e.o with
  | none =>
    refine ifT rfl ?_
    cases hnn : e.n with
    | none => exact (ok.k ho hnn).elim
    | some r =>
      rw [hnn] at hy
      obtain ⟨b, rfl, hb⟩ := hy
      have ro := ok.n
      rw [hnn] at ro
      refine ⟨_, rfl, _, _, _, _, rfl, rfl, hb, atI0 (row0 ro hn), ?_⟩
      have ek : e.key = r.key := by unfold Ent.key; rw [ho, hnn]
      rw [ek] at hQ
      exact hQ
  | some r =>
    refine ifF rfl ?_
    rw [ho] at hx
    obtain ⟨b, rfl, hb⟩ := hx
    have ro := ok.o
    rw [ho] at ro
    refine ⟨_, rfl, _, _, _, _, rfl, rfl, hb, atI0 (row0 ro hn), ?_⟩
    have ek : e.key = r.key := by unfold Ent.key; rw [ho]
    rw [ek] at hQ
    exact hQ
def spGrow (K : Fg) : Sp := fun vs H Q _ => ∃ (v : V) (e : Ent), vs = [v] ∧ VE K H v e ∧ Q (.int e.grow) H
theorem ok_entry_growth {w : World} {K : Fg} {mg : Str → Option Value} {base : Heap} (T : Top K mg)  : FnA PR w K mg base 1 (He.ga K "entry_growth") [] ((spGrow K)) := by
  obtain ⟨_, fd, F⟩ := T.f_entry_growth
  refine fna_d0 F sc_entry_growth (fun vs H Q E h => ?_) (fun _ _ _ _ _ _ us hl => match us, hl with | [_], _ => rfl) (fun cdv A outer s H vs Q E hr h => ?_)
  · obtain ⟨v, e, rfl, ⟨a, x, y, rfl, hS, hx, hy⟩, hQ⟩ := h; rfl
  obtain ⟨v, e, rfl, ⟨a, x, y, rfl, hS, hx, hy⟩, hQ⟩ := h
  refine ⟨_, (pss_cons (ps_asg (pv 0) (pg_tup (by rfl) (pgs_cons (pg_name (i := 1) sc_entry_growth.nd rfl (Or.inl rfl)) (pgs_cons (pg_name (i := 2) sc_entry_growth.nd rfl (Or.inl rfl)) (pgs_cons (pg_name (i := 3) sc_entry_growth.nd rfl (Or.inl rfl)) pgs_nil)))))
    (pss_one (ps_ret (pe_op op_sub (pe_callTy call_int1 (by rfl) T.b_int (by decide +kernel) (pa_cons (pe_cmpR op_notN (pv 3) pe_non (nomark _)) pa_nil)) (pe_callTy call_int1 (by rfl) T.b_int (by decide +kernel) (pa_cons (pe_cmpR op_notN (pv 2) pe_non (nomark _)) pa_nil)))))), ?_⟩
  refine ⟨_, rfl, a, _, rfl, hS, rfl, _, _, rfl, _, _, rfl, _, _, rfl, rfl, ?_⟩
  refine ⟨_, rfl, rfl, .inr ⟨_, rfl, ?_⟩⟩
  refine ⟨_, rfl, rfl, .inr ⟨_, rfl, ?_⟩⟩
  refine ⟨_, _, rfl, rfl, ?_⟩
  rw [hx.isN, hy.isN]
  have eg : e.grow = (if (!e.n.isNone) = true then 1 else 0) - (if (!e.o.isNone) = true then 1 else 0) := by
    unfold Ent.grow b2
    cases e.o <;> cases e.n <;> rfl
  rw [eg] at hQ
  exact hQ
def spGap (K : Fg) : Sp := fun vs H Q _ => ∃ (a b : Addr) (p q : Int) (x : V) (l m : List V), vs = [.ref a, .ref b] ∧ SqT K H a (.int p :: x :: l) ∧ SqT K H b (.int q :: m) ∧ Q (.int (q - p - b2 (!decide (x = .non)))) H
theorem ok_gap_size {w : World} {K : Fg} {mg : Str → Option Value} {base : Heap} (T : Top K mg)  : FnA PR w K mg base 1 (He.ga K "gap_size") [] ((spGap K)) := by
  obtain ⟨_, fd, F⟩ := T.f_gap_size
  refine fna_d0 F sc_gap_size (fun vs H Q E h => ?_) (fun _ _ _ _ _ _ us hl => match us, hl with | [_, _], _ => rfl) (fun cdv A outer s H vs Q E hr h => ?_)
  · obtain ⟨a, b, p, q, x, l, m, rfl, ha, hb, hQ⟩ := h; rfl
  obtain ⟨a, b, p, q, x, l, m, rfl, ha, hb, hQ⟩ := h
  refine ⟨_, (pss_one (ps_ret (pe_op op_sub (pe_op op_sub (pe_ix ix_tup (pv 1) pe_int (fun _ _ => rfl)) (pe_ix ix_tup (pv 0) pe_int (fun _ _ => rfl))) (pe_callTy call_int1 (by rfl) T.b_int (by decide +kernel) (pa_cons (pe_cmpR op_notN (pe_ix ix_tup (pv 0) pe_int (fun _ _ => rfl)) pe_non (nomark _)) pa_nil))))), ?_⟩
  refine ⟨_, rfl, _, _, _, _, rfl, rfl, hb, atI0 rfl, ?_⟩
  refine ⟨_, rfl, _, _, _, _, rfl, rfl, ha, atI0 rfl, ?_⟩
  refine ⟨_, _, rfl, rfl, ?_⟩
  refine ⟨_, rfl, _, _, _, _, rfl, rfl, ha, atI1 rfl, ?_⟩
  refine ⟨rfl, .inr ⟨_, rfl, ?_⟩⟩
  exact ⟨_, _, rfl, rfl, hQ⟩
def spInOrd (K : Fg) : Sp := fun vs H Q _ => ∃ (u v : V) (e f : Ent) (n : Nat), vs = [u, v] ∧ VE K H u e ∧ VE K H v f ∧ EntOk n e ∧ EntOk n f ∧ 1 ≤ n ∧ Q (.bl (decide (InOrd e f))) H
theorem ok_in_order {w : World} {K : Fg} {mg : Str → Option Value} {base : Heap} (T : Top K mg) (D_gap_size : Df PR w K mg base 1 "gap_size" [] (spGap K)) (D_entry_key : Df PR w K mg base 1 "entry_key" [] (spKey K)) : FnA PR w K mg base 2 (He.ga K "in_order") [] ((spInOrd K)) := by
  obtain ⟨_, fd, F⟩ := T.f_in_order
  refine fna_d0 F sc_in_order (fun vs H Q E h => ?_) (fun _ _ _ _ _ _ us hl => match us, hl with | [_, _], _ => rfl) (fun cdv A outer s H vs Q E hr h => ?_)
  · obtain ⟨u, v, e, f, n, rfl, hu, hv, oke, okf, hn, hQ⟩ := h; rfl
  obtain ⟨u, v, e, f, n, rfl, hu, hv, oke, okf, hn, hQ⟩ := h
  refine ⟨_, (pss_one (ps_ret (pe_chain op_le op_lt pe_int (pe_df D_gap_size (hr.mono (by decide)) (by rfl) passLA (pa_cons (pv 0) (pa_cons (pv 1) pa_nil))) (pe_op op_sub (pe_df D_entry_key (hr.mono (by decide)) (by rfl) passLA (pa_cons (pv 1) pa_nil)) (pe_df D_entry_key (hr.mono (by decide)) (by rfl) passLA (pa_cons (pv 0) pa_nil)))))), ?_⟩
  obtain ⟨a, x, y, eu, ha, hx, hy⟩ := id hu
  obtain ⟨b, x', y', ev, hb, hx', hy'⟩ := id hv
  refine ⟨_, rfl, _, rfl, a, b, e.p, f.p, x, _, _, by rw [eu, ev], ha, hb, ?_⟩
  refine ⟨_, _, rfl, rfl, _, rfl, ?_⟩
  have eg : f.p - e.p - b2 (!decide (x = V.non)) = gapE e f := by
    rw [hx.isN]
    unfold gapE
    cases e.o <;> rfl
  rw [eg]
  by_cases h1 : 0 ≤ gapE e f
  · refine ifT (decide_eq_true h1) ?_
    refine ⟨_, rfl, v, f, n, rfl, hv, okf.key, hn, ?_⟩
    refine ⟨_, rfl, u, e, n, rfl, hu, oke.key, hn, ?_⟩
    refine ⟨_, _, rfl, rfl, _, _, rfl, rfl, ?_⟩
    have ed : decide (gapE e f < f.key - e.key) = decide (InOrd e f) := by
      unfold InOrd
      simp [h1]
    show Q (.bl (decide (gapE e f < f.key - e.key))) H
    rw [ed]
    exact hQ
  · refine ifF (decide_eq_false h1) ?_
    have ed : decide (InOrd e f) = false := decide_eq_false fun z => h1 z.1
    rw [ed] at hQ
    exact hQ
def spIsEntry (K : Fg) : Sp := fun vs H Q _ => ∃ (v : V) (e : Ent) (n : Nat), vs = [v, .int (n : Int)] ∧ VE K H v e ∧ EntOk n e ∧ 1 ≤ n ∧ n ≤ 1000 ∧ ∀ H', Ex H H' → Q (.bl true) H'
theorem ok_is_entry {w : World} {K : Fg} {mg : Str → Option Value} {base : Heap} (T : Top K mg) (D_is_integer : Df PR w K mg base 1 "is_integer" [] spIsInt) (D_is_row : Df PR w K mg base 2 "is_row" [] (spIsRow K)) : FnA PR w K mg base 3 (He.ga K "is_entry") [] ((spIsEntry K)) := by
  obtain ⟨_, fd, F⟩ := T.f_is_entry
  refine fna_d0 F sc_is_entry (fun vs H Q E h => ?_) (fun _ _ _ _ _ _ us hl => match us, hl with | [_, _], _ => rfl) (fun cdv A outer s H vs Q E hr h => ?_)
  · obtain ⟨v, e, n, rfl, ⟨a, x, y, rfl, hS, hx, hy⟩, ok, hn, hn2, hQ⟩ := h; rfl
  obtain ⟨v, e, n, rfl, ⟨a, x, y, rfl, hS, hx, hy⟩, ok, hn, hn2, hQ⟩ := h
  refine ⟨_, (pss_cons (ps_if (PW.pt (pw_or (pt_not (pt_val (pe_callB call_isi (by rfl) T.b_isinstance (by decide +kernel) (pa_cons (pv 0) (pa_cons (pe_bltn (v := .ty "tuple") (u := .type "tuple") (by rfl) T.b_tuple (by decide +kernel) rfl) pa_nil))))) (pw_or1 (pt_cmpR op_ne (pe_callB call_len_seq (by rfl) T.b_len (by decide +kernel) (pa_cons (pv 0) pa_nil)) pe_int (nomark _))))) (pss_one (ps_ret pe_bl)) pss_nil)
    (pss_cons (ps_asg (pv 0) (pg_tup (by rfl) (pgs_cons (pg_name (i := 2) sc_is_entry.nd rfl (Or.inl rfl)) (pgs_cons (pg_name (i := 3) sc_is_entry.nd rfl (Or.inl rfl)) (pgs_cons (pg_name (i := 4) sc_is_entry.nd rfl (Or.inl rfl)) pgs_nil)))))
    (pss_cons (ps_if (PW.pt (pw_or (pt_not (pt_val (pe_df D_is_integer (hr.mono (by decide)) (by rfl) passLA (pa_cons (pv 2) pa_nil)))) (pw_or1 (pt_cmpR op_lt (pv 2) pe_int (nomark _))))) (pss_one (ps_ret pe_bl)) pss_nil)
    (pss_cons (ps_for poOf rfl (pi_tup (pe_tup (pa_cons (pv 3) (pa_cons (pv 4) pa_nil)))) (pg_name (i := 5) sc_is_entry.nd rfl (Or.inl rfl)) (pss_one (ps_if (PW.pt (pw_and (pt_cmpR op_notN (pv 5) pe_non (nomark _)) (pw_and1 (pt_not (pt_val (pe_df D_is_row (hr.mono (by decide)) (by rfl) passLA (pa_cons (pv 5) (pa_cons (pv 1) pa_nil)))))))) (pss_one (ps_ret pe_bl)) pss_nil)))
    (pss_cons (ps_if (PW.pt (pw_or (pt_cmpR op_isN (pv 3) pe_non (nomark _)) (pw_or1 (pt_cmpR op_isN (pv 4) pe_non (nomark _))))) (pss_one (ps_ret (pe_or (pe_cmpR op_notN (pv 3) pe_non (nomark _)) (pe_one (pe_cmpR op_notN (pv 4) pe_non (nomark _)))))) pss_nil)
    (pss_one (ps_ret (pe_and (pe_cmpR op_eq (pe_ix ix_tup (pv 3) pe_int (fun _ _ => rfl)) (pe_ix ix_tup (pv 4) pe_int (fun _ _ => rfl)) (nomark _)) (pe_one (pe_cmpR (op_neD hr.units) (pv 3) (pv 4) (nomark _))))))))))), ?_⟩
  refine ⟨_, rfl, _, _, _, _, _, rfl, .ty _, tyT hS, kit_tt, true, rfl, ?_⟩
  refine iteF ⟨_, rfl, _, _, rfl, .inr hS, rfl, _, rfl, ?_⟩
  refine iteNS rfl ?_
  refine ⟨_, rfl, a, _, rfl, hS, rfl, _, _, rfl, _, _, rfl, _, _, rfl, rfl, ?_⟩
  refine ⟨_, rfl, _, rfl, true, rfl, ?_⟩
  refine iteF ⟨_, rfl, _, _, rfl, rfl, _, rfl, ?_⟩
  refine ifF (decide_eq_false (by have := ok.p; omega)) ?_
  refine ⟨_, rfl, _, rfl, sz2, fun t ht => ⟨_, rfl, ⟨_, st_of upd_same⟩, ?_⟩⟩
  refine for_tup (K := K) (a := t) (xs := [x, y]) (fun i σ H' => Ex H H' ∧ H' t = some (.tup [x, y]) ∧ ∃ m, σ = [some (.ref a), some (.int (n : Int)), some (.int e.p), some x, some y, m]) ⟨Ex.new ht, upd_same, _, rfl⟩ (fun i σ H' _ p => st_of p.2.1) ?_ ?_
  · rintro i z σ H' hz ⟨e1, ht', m, rfl⟩
    have hrow : ∃ r : Option Rwv, VO K H z r ∧ ORowOk n r := by
      match i, hz with
      | 0, hz => exact ⟨e.o, by rw [← Option.some.inj hz]; exact hx, ok.o⟩
      | 1, hz => exact ⟨e.n, by rw [← Option.some.inj hz]; exact hy, ok.n⟩
    obtain ⟨r, hr, hok⟩ := hrow
    refine ⟨_, rfl, rfl, _, rfl, ?_⟩
    rw [hr.isN]
    cases r with
    | none =>
      refine ifF rfl (iteF ⟨e1, ht', _, rfl⟩)
    | some r =>
      obtain ⟨b, rfl, hb⟩ := hr
      have el : r.length = n := hok
      refine ifT rfl ⟨_, rfl, _, rfl, b, r, (n : Int), rfl, ex_t e1 hb, by omega, fun H2 e2 => ⟨_, rfl, ?_⟩⟩
      refine ifF (by rw [el, decide_eq_true rfl]; rfl) ⟨e1.trans e2, e2 _ _ ht', _, rfl⟩
  · rintro σ H' ⟨e1, ht', m, rfl⟩
    have hx' := hx.ex (ExN.of e1)
    have hy' := hy.ex (ExN.of e1)
    refine ⟨_, rfl, rfl, _, rfl, ?_⟩
    rw [hx.isN]
    cases ho : e.o with
    | none =>
      refine ifT rfl ?_
      refine ifT rfl ?_
      refine ⟨_, rfl, rfl, _, rfl, ?_⟩
      rw [hx.isN, ho]
      refine ifF rfl ⟨_, rfl, rfl, ?_⟩
      rw [hy.isN]
      cases hnn : e.n with
      | none =>
        have k := ok.k
        rw [ho, hnn] at k
        exact k.elim
      | some r => exact hQ H' e1
    | some ro =>
      refine ifF rfl ⟨_, rfl, rfl, _, rfl, ?_⟩
      rw [hy.isN]
      cases hnn : e.n with
      | none =>
        refine ifT rfl ⟨_, rfl, rfl, _, rfl, ?_⟩
        rw [hx.isN, ho]
        exact ifT rfl (hQ H' e1)
      | some rn =>
        refine ifF rfl ?_
        have k := ok.k
        rw [ho, hnn] at k
        have oo := ok.o
        have on := ok.n
        rw [ho] at oo hx'
        rw [hnn] at on hy'
        obtain ⟨b, eb, hb⟩ := id hx'
        obtain ⟨c, ec, hc⟩ := id hy'
        refine ⟨_, rfl, _, _, _, _, eb, rfl, hb, atI0 (row0 oo hn), ?_⟩
        refine ⟨_, rfl, _, _, _, _, ec, rfl, hc, atI0 (row0 on hn), rfl, _, rfl, ?_⟩
        refine ifT (by rw [k.1]; exact decide_eq_true rfl) ⟨_, rfl, _, rfl, ?_⟩
        refine rNe_rows (a := some ro) (b := some rn) hx' hy' ?_
        rw [decide_eq_false (fun z => k.2 (Option.some.inj z))]
        exact hQ H' e1
def spCheckEntries (K : Fg) : Sp := fun vs H Q _ => ∃ (L : Bool) (a : Addr) (us : List V) (es : List Ent) (n : Nat), vs = [.int (n : Int), .ref a] ∧ EnS K L a us H ∧ All2 (VE K H) us es ∧ 1 ≤ n ∧ n ≤ 1000 ∧ EntsOk n es ∧ es.length ≤ 100000 ∧
  ∀ l H', H l = none → Ex H H' → H' l = some (.lst us) → Q (.ref l) H'
theorem ok_check_entries {w : World} {K : Fg} {mg : Str → Option Value} {base : Heap} (T : Top K mg) (D_is_entry : Df PR w K mg base 3 "is_entry" [] (spIsEntry K)) (D_in_order : Df PR w K mg base 2 "in_order" [] (spInOrd K)) : FnA PR w K mg base 4 (He.ga K "check_entries") [] ((spCheckEntries K)) := by
  obtain ⟨_, fd, F⟩ := T.f_check_entries
  refine fna_d0 F sc_check_entries (fun vs H Q E h => ?_) (fun _ _ _ _ _ _ us hl => match us, hl with | [_, _], _ => rfl) (fun cdv A outer s H vs Q E hr h => ?_)
  · obtain ⟨L, a, us, es, n, rfl, hS, hv, hn, hn2, ok, hz, hQ⟩ := h; rfl
  obtain ⟨L, a, us, es, n, rfl, hS, hv, hn, hn2, ok, hz, hQ⟩ := h
  refine ⟨_, (pss_cons (ps_set (i := 2) sc_check_entries.nd rfl (Or.inl rfl) (pe_lst pa_nil))
    (pss_cons (ps_for poOf rfl (pi_enA (by rfl) T.b_enumerate (pa_cons (pv 1) pa_nil)) (pg_tup (by rfl) (pgs_cons (pg_name (i := 3) sc_check_entries.nd rfl (Or.inl rfl)) (pgs_cons (pg_name (i := 4) sc_check_entries.nd rfl (Or.inl rfl)) pgs_nil))) (pss_cons (ps_if (pt_not (pt_val (pe_df D_is_entry (hr.mono (by decide)) (by rfl) passLA (pa_cons (pv 4) (pa_cons (pv 0) pa_nil))))) (pss_one ps_never) pss_nil)
    (pss_cons (ps_if (PW.pt (pw_and (pt_cmpR op_gt (pv 3) pe_int (nomark _)) (pw_and1 (pt_not (pt_val (pe_df D_in_order (hr.mono (by decide)) (by rfl) passLA (pa_cons (pe_ix ix_list (pv 2) (pe_un un_neg pe_int) (fun _ _ => rfl)) (pa_cons (pv 4) pa_nil)))))))) (pss_one ps_never) pss_nil)
    (pss_one (ps_expr (pe_bm PySem.F.plainAttrs_list PySem.F.slot_list_append PySem.F.type_list_append mt_append (pv 2) (pa_cons (pv 4) pa_nil)))))))
    (pss_one (ps_ret (pv 2))))), ?_⟩
  refine ⟨Nat.zero_le _, fun D hD => ?_⟩
  refine ⟨_, rfl, L, a, us, rfl, enS_ex (Ex.new hD) hS, ?_⟩
  refine for_enA (K := K) (L := L) (a := a) (xs := us) (fun i σ H' => Ex H H' ∧ H' D = some (.lst (us.take i)) ∧ ∃ m1 m2, σ = [some (.int (n : Int)), some (.ref a), some (.ref D), m1, m2]) ⟨Ex.new hD, upd_same, _, _, rfl⟩ (fun i σ H' _ p => enS_ex p.1 hS) ?_ ?_
  · rintro i x σ H' hx ⟨e, hD', m1, m2, rfl⟩ T hT
    refine ⟨T, _, rfl, st_of upd_same, rfl, _, _, rfl, _, _, rfl, rfl, ?_⟩
    obtain ⟨r, hr0, hvr⟩ := hv.get hx
    have e1 : Ex H (upd H' T (.tup [.int (i : Nat), x])) := e.trans (Ex.new hT)
    have rok : EntOk n r := ok.all r (List.mem_of_getElem? hr0)
    have hTD : D ≠ T := ne_of_none hD' hT
    refine ⟨_, rfl, _, rfl, x, r, n, rfl, hvr.ex (ExN.of e1), rok, hn, hn2, fun H2 e2 => ⟨true, rfl, ?_⟩⟩
    refine iteF ?_
    have hD2 : H2 D = some (.lst (us.take i)) := e2 _ _ (by rw [upd_ne hTD]; exact hD')
    have eH2 := e1.trans e2
    refine ⟨_, rfl, _, _, rfl, rfl, _, rfl, ?_⟩
    refine (fun fin => ite2 (fun h => ?_) fun _ => iteF fin) ?_
    · have hi : 0 < i := by have := of_decide_eq_true h; omega
      obtain ⟨j, rfl⟩ : ∃ j, i = j + 1 := ⟨i - 1, by omega⟩
      have hlt := (List.getElem?_eq_some_iff.mp hx).1
      have hy : us[j]? = some us[j] := List.getElem?_eq_getElem (by omega)
      obtain ⟨r', hr1, hvr'⟩ := hv.get hy
      have rok' : EntOk n r' := ok.all r' (List.mem_of_getElem? hr1)
      refine ⟨_, rfl, _, rfl, _, _, _, _, rfl, rfl, sq_of hD2, atI_take hy, ?_⟩
      refine ⟨_, rfl, _, _, r', r, n, rfl, hvr'.ex (ExN.of eH2), hvr.ex (ExN.of eH2), rok', rok, hn, _, rfl, ?_⟩
      exact ifF (by rw [decide_eq_true (ok.ord.get hr1 hr0)]; rfl) fin
    · refine ⟨_, rfl, .inl ⟨rfl, _, sq_of hD2⟩, _, rfl, D, _, _, rfl, rfl, hD2, ?_, ?_⟩
      · have hlt := (List.getElem?_eq_some_iff.mp hx).1
        rw [List.length_take]
        have := hv.len
        exact Nat.lt_of_le_of_lt (Nat.min_le_left _ _) (szK (by omega))
      · exact ⟨Ex.mut eH2 hD, by rw [upd_same, take_snoc hx], _, _, rfl⟩
  · rintro σ H' ⟨e, hD', m1, m2, rfl⟩
    rw [List.take_length] at hD'
    exact ⟨_, rfl, hQ D H' hD e hD'⟩

end Kx

end

section
set_option Elab.async false
set_option linter.all false
set_option maxRecDepth 100000
set_option maxHeartbeats 4000000
namespace Kx
open PySem PySem.Spec PyProof.Rows L2 Evl Pl
/-! ### joins -/
def spTurned (K : Fg) : Sp := fun vs H Q _ => ∃ (a : Addr) (us : List V) (es : List Ent), vs = [.ref a] ∧ SqL K H a us ∧ All2 (VE K H) us es ∧ es.length ≤ 100000 ∧
  ∀ l ws H', H l = none → Ex H H' → H' l = some (.lst ws) → All2 (VE K H') ws (turnedM es) → Q (.ref l) H'
theorem ok_turned {w : World} {K : Fg} {mg : Str → Option Value} {base : Heap} (T : Top K mg) (D_entry_growth : Df PR w K mg base 1 "entry_growth" [] (spGrow K)) : FnA PR w K mg base 2 (He.ga K "turned") [] ((spTurned K)) := by
  obtain ⟨_, fd, F⟩ := T.f_turned
  refine fna_d0 F sc_turned (fun vs H Q E h => ?_) (fun _ _ _ _ _ _ us hl => match us, hl with | [_], _ => rfl) (fun cdv A outer s H vs Q E hr h => ?_)
  · obtain ⟨a, us, es, rfl, hS, hv, hz, hQ⟩ := h; rfl
  obtain ⟨a, us, es, rfl, hS, hv, hz, hQ⟩ := h
  refine ⟨_, (pss_cons (ps_set (i := 1) sc_turned.nd rfl (Or.inl rfl) pe_int)
    (pss_cons (ps_set (i := 2) sc_turned.nd rfl (Or.inl rfl) (pe_lst pa_nil))
    (pss_cons (ps_for poOf rfl (pi_list (pv 0)) (pg_name (i := 3) sc_turned.nd rfl (Or.inl rfl)) (pss_cons (ps_asg (pv 3) (pg_tup (by rfl) (pgs_cons (pg_name (i := 4) sc_turned.nd rfl (Or.inl rfl)) (pgs_cons (pg_name (i := 5) sc_turned.nd rfl (Or.inl rfl)) (pgs_cons (pg_name (i := 6) sc_turned.nd rfl (Or.inl rfl)) pgs_nil)))))
    (pss_cons (ps_expr (pe_bm PySem.F.plainAttrs_list PySem.F.slot_list_append PySem.F.type_list_append mt_append (pv 2) (pa_cons (pe_tup (pa_cons (pe_op op_add (pv 4) (pv 1)) (pa_cons (pv 6) (pa_cons (pv 5) pa_nil)))) pa_nil)))
    (pss_one (ps_set (i := 1) sc_turned.nd rfl (Or.inl rfl) (pe_op op_add (pv 1) (pe_df D_entry_growth (hr.mono (by decide)) (by rfl) passLA (pa_cons (pv 3) pa_nil))))))))
    (pss_one (ps_ret (pv 2)))))), ?_⟩
  refine ⟨Nat.zero_le _, fun D hD => ?_⟩
  refine ⟨_, rfl, a, rfl, ⟨us, ex_l (Ex.new hD) hS⟩, ?_⟩
  refine for_list (K := K) (a := a) (xs := us) (fun i σ H' => Ex H H' ∧ (∃ ws, H' D = some (.lst ws) ∧ All2 (VE K H') ws ((turnedM es).take i)) ∧ ∃ m1 m2 m3 m4, σ = [some (.ref a), some (.int (gsum es i)), some (.ref D), m1, m2, m3, m4])
    ⟨Ex.new hD, ⟨[], upd_same, .nil⟩, _, _, _, _, rfl⟩ (fun i σ H' _ p => ex_l p.1 hS) ?_ ?_
  · rintro i x σ H' hx ⟨e, ⟨ws, hD', hws⟩, m1, m2, m3, m4, rfl⟩
    obtain ⟨en, he, hve⟩ := hv.get hx
    have hve' := hve.ex (ExN.of e)
    obtain ⟨b, x1, x2, rfl, hb, h1, h2⟩ := id hve'
    refine ⟨_, rfl, b, _, rfl, hb, rfl, _, _, rfl, _, _, rfl, _, _, rfl, rfl, ?_⟩
    refine ⟨_, rfl, .inl ⟨rfl, _, sq_of hD'⟩, ?_⟩
    refine ⟨_, rfl, _, rfl, _, _, rfl, rfl, _, rfl, _, rfl, sz3, fun t ht => ?_⟩
    have hlt := (List.getElem?_eq_some_iff.mp hx).1
    have h6 := hv.len
    have hDt : D ≠ t := ne_of_none hD' ht
    have hD2 : (upd H' t (.tup [.int (en.p + gsum es i), x2, x1])) D = some (.lst ws) := by rw [upd_ne hDt]; exact hD'
    have hwl : ws.length = i := by
      have h3 := hws.len
      have h4 := hv.len
      rw [List.length_take] at h3
      have h5 : (turnedM es).length = es.length := turnG_len
      omega
    refine ⟨D, ws, _, rfl, rfl, hD2, szK (by omega), ?_⟩
    have eN : ExN H' (upd (upd H' t (.tup [.int (en.p + gsum es i), x2, x1])) D (.lst (ws ++ [.ref t]))) := (ExN.of (Ex.new ht)).trans (ExN.list hD2)
    refine ⟨_, rfl, _, rfl, _, en, rfl, hve'.ex eN, _, _, rfl, rfl, ?_⟩
    refine ⟨Ex.mut (e.trans (Ex.new ht)) hD, ⟨_, upd_same, ?_⟩, _, _, _, _, by rw [gsum_succ he]; rfl⟩
    have hg : (turnedM es)[i]? = some ⟨en.p + (0 + gsum es i), en.n, en.o⟩ := turnG_get he
    rw [take_snoc hg]
    refine (ves_ex eN hws).app (.cons ⟨t, x2, x1, rfl, ?_, h2.ex eN, h1.ex eN⟩ .nil)
    have ht2 : (upd (upd H' t (.tup [.int (en.p + gsum es i), x2, x1])) D (.lst (ws ++ [.ref t]))) t = some (.tup [.int (en.p + gsum es i), x2, x1]) := by rw [upd_ne (Ne.symm hDt), upd_same]
    have e0 : en.p + (0 + gsum es i) = en.p + gsum es i := by omega
    show SqT K _ t [.int (en.p + (0 + gsum es i)), x2, x1]
    rw [e0]
    exact st_of ht2
  · rintro σ H' ⟨e, ⟨ws, hD', hws⟩, m1, m2, m3, m4, rfl⟩
    have h5 : us.length = (turnedM es).length := by
      rw [hv.len]
      exact turnG_len.symm
    rw [h5, List.take_length] at hws
    exact ⟨_, rfl, hQ D ws H' hD e hD' hws⟩
def spLink (K : Fg) : Sp := fun vs H Q E => ∃ (u v : V) (g : Int) (oe fe : Option Ent), vs = [u, v, .int g] ∧ VOE K H u oe ∧ VOE K H v fe ∧ (oe = none → fe = none → False) ∧
  (∀ L t H', linkM oe fe g = some L → Ex H H' → VL K H' t L → Q t H') ∧ (linkM oe fe g = none → E (.ref (He.ga K "DoesNotFollow")) none H)
theorem ok_make_link {w : World} {K : Fg} {mg : Str → Option Value} {base : Heap} (T : Top K mg)  : FnA PR w K mg base 2 (He.ga K "make_link") [] ((spLink K)) := by
  obtain ⟨_, fd, F⟩ := T.f_make_link
  refine fna_d0 F sc_make_link (fun vs H Q E h => ?_) (fun _ _ _ _ _ _ us hl => match us, hl with | [_, _, _], _ => rfl) (fun cdv A outer s H vs Q E hr h => ?_)
  · obtain ⟨u, v, g, oe, fe, rfl, hu, hv, hne, hQ, hE⟩ := h; rfl
  obtain ⟨u, v, g, oe, fe, rfl, hu, hv, hne, hQ, hE⟩ := h
  refine ⟨_, (pss_cons (ps_if (pt_cmpR op_isN (pv 1) pe_non (nomark _)) (pss_cons (ps_asg (pv 0) (pg_tup (by rfl) (pgs_cons (pg_name (i := 3) sc_make_link.nd rfl (Or.inl rfl)) (pgs_cons (pg_name (i := 4) sc_make_link.nd rfl (Or.inl rfl)) (pgs_cons (pg_name (i := 5) sc_make_link.nd rfl (Or.inl rfl)) pgs_nil)))))
    (pss_one (ps_ret (pe_tup (pa_cons (pv 3) (pa_cons (pv 4) (pa_cons (pv 5) (pa_cons (pv 5) pa_nil)))))))) pss_nil)
    (pss_cons (ps_asg (pv 1) (pg_tup (by rfl) (pgs_cons (pg_name (i := 3) sc_make_link.nd rfl (Or.inl rfl)) (pgs_cons (pg_name (i := 4) sc_make_link.nd rfl (Or.inl rfl)) (pgs_cons (pg_name (i := 5) sc_make_link.nd rfl (Or.inl rfl)) pgs_nil)))))
    (pss_cons (ps_if (pt_cmpR op_isN (pv 0) pe_non (nomark _)) (pss_one (ps_ret (pe_tup (pa_cons (pe_op op_sub (pv 3) (pv 2)) (pa_cons (pv 4) (pa_cons (pv 4) (pa_cons (pv 5) pa_nil))))))) pss_nil)
    (pss_cons (ps_if (PW.pt (pw_or (pt_cmpR (op_neD hr.units) (pe_ix ix_tup (pv 0) pe_int (fun _ _ => rfl)) (pv 4) (nomark _)) (pw_or1 (pt_cmpR op_ne (pe_op op_add (pe_ix ix_tup (pv 0) pe_int (fun _ _ => rfl)) (pv 2)) (pv 3) (nomark _))))) (pss_one (ps_raise rfl tkOf (pmk_own PySem.F.excBase_ValueError T.x_DoesNotFollow.1 T.g_DoesNotFollow T.x_DoesNotFollow.2.1 (raises_own T.x_DoesNotFollow.2.2.1 T.x_DoesNotFollow.2.2.2) (by rfl)))) pss_nil)
    (pss_one (ps_ret (pe_tup (pa_cons (pe_ix ix_tup (pv 0) pe_int (fun _ _ => rfl)) (pa_cons (pe_ix ix_tup (pv 0) pe_int (fun _ _ => rfl)) (pa_cons (pv 4) (pa_cons (pv 5) pa_nil))))))))))), ?_⟩
  refine ⟨_, rfl, rfl, _, rfl, ?_⟩
  rw [hv.isN]
  cases fe with
  | none =>
    cases oe with
    | none => exact (hne rfl rfl).elim
    | some e =>
      obtain ⟨b, x, y, rfl, hb, hx, hy⟩ := hu
      refine ifT rfl ⟨_, rfl, b, _, rfl, hb, rfl, _, _, rfl, _, _, rfl, _, _, rfl, rfl, ?_⟩
      refine ⟨_, rfl, _, rfl, _, rfl, _, rfl, sz4, fun t ht => ?_⟩
      exact hQ _ _ _ rfl (Ex.new ht) ⟨t, x, y, y, rfl, st_of upd_same, hx.ex (ExN.of (Ex.new ht)), hy.ex (ExN.of (Ex.new ht)), hy.ex (ExN.of (Ex.new ht))⟩
  | some f =>
    obtain ⟨c, x', y', rfl, hc, hx', hy'⟩ := hv
    refine ifF rfl ⟨_, rfl, c, _, rfl, hc, rfl, _, _, rfl, _, _, rfl, _, _, rfl, rfl, ?_⟩
    refine ⟨_, rfl, rfl, _, rfl, ?_⟩
    rw [hu.isN]
    cases oe with
    | none =>
      refine ifT rfl ⟨_, rfl, _, rfl, _, _, rfl, rfl, _, rfl, _, rfl, _, rfl, sz4, fun t ht => ?_⟩
      exact hQ _ _ _ rfl (Ex.new ht) ⟨t, x', x', y', rfl, st_of upd_same, hx'.ex (ExN.of (Ex.new ht)), hx'.ex (ExN.of (Ex.new ht)), hy'.ex (ExN.of (Ex.new ht))⟩
    | some e =>
      obtain ⟨b, x, y, rfl, hb, hx, hy⟩ := hu
      refine ifF rfl ⟨_, rfl, _, _, _, _, rfl, rfl, hb, atI2 rfl, _, rfl, ?_⟩
      refine rNe_rows hy hx' ⟨_, rfl, ?_⟩
      have fin : ¬ (e.n ≠ f.o ∨ e.p + g ≠ f.p) → ∀ t, H t = none → Q (.ref t) (upd H t (.tup [.int e.p, x, x', y'])) := fun hc t ht =>
        hQ ⟨e.p, e.o, f.o, f.n⟩ _ _ (by show (if e.n ≠ f.o ∨ e.p + g ≠ f.p then none else _) = _; rw [if_neg hc]) (Ex.new ht) ⟨t, x, x', y', rfl, st_of upd_same, hx.ex (ExN.of (Ex.new ht)), hx'.ex (ExN.of (Ex.new ht)), hy'.ex (ExN.of (Ex.new ht))⟩
      by_cases h1 : e.n = f.o
      · refine ifF (by rw [decide_eq_true h1]; rfl) ⟨_, rfl, _, _, _, _, rfl, rfl, hb, atI0 rfl, _, rfl, _, _, rfl, rfl, _, rfl, rfl, _, rfl, ?_⟩
        by_cases h2 : e.p + g = f.p
        · refine iteNS (by show V.int (e.p + g) = V.int f.p; rw [h2]) ⟨_, rfl, _, _, _, _, rfl, rfl, hb, atI0 rfl, _, rfl, _, _, _, _, rfl, rfl, hb, atI1 rfl, _, rfl, _, rfl, sz4, fun t ht => ?_⟩
          exact fin (fun z => z.elim (fun z => z h1) fun z => z h2) t ht
        · refine ifT (by show (!decide (V.int (e.p + g) = V.int f.p)) = true; rw [decide_eq_false (fun z => h2 (by injection z))]; rfl) ?_
          exact hE (by show (if e.n ≠ f.o ∨ e.p + g ≠ f.p then none else _) = _; rw [if_pos (.inr h2)])
      · refine ifT (by rw [decide_eq_false h1]; rfl) (ifT rfl ?_)
        exact hE (by show (if e.n ≠ f.o ∨ e.p + g ≠ f.p then none else _) = _; rw [if_pos (.inl h1)])

end Kx

end

section
set_option Elab.async false
set_option linter.all false
set_option maxRecDepth 100000
set_option maxHeartbeats 4000000
namespace Kx
open PySem PySem.Spec PyProof.Rows L2 Evl Pl
def spLinks (K : Fg) : Sp := fun vs H Q E => ∃ (a b : Addr) (us ws : List V) (es fs : List Ent) (n : Nat), vs = [.ref a, .ref b] ∧ SqL K H a us ∧ SqL K H b ws ∧ All2 (VE K H) us es ∧ All2 (VE K H) ws fs ∧ (∀ e ∈ es, KeyOk n e) ∧ (∀ e ∈ fs, KeyOk n e) ∧ 1 ≤ n ∧
  (es.map Ent.key).Pairwise (· < ·) ∧ (fs.map Ent.key).Pairwise (· < ·) ∧ es.length + fs.length < 64 ∧
  (∀ Ls l xs H', linksM es fs = some Ls → H l = none → Ex H H' → H' l = some (.lst xs) → All2 (VL K H') xs Ls → Q (.ref l) H') ∧ (linksM es fs = none → ∀ H', Ex H H' → E (.ref (He.ga K "DoesNotFollow")) none H')
theorem atI_end {α : Type} {xs : List α} {n : Nat} {v : α} (hl : xs.length = n + 1) (h : xs[n]? = some v) : atI xs (-1) = some v := by
  have z := atI_take h
  rw [← hl, List.take_length] at z
  exact z
/-- the last key, as the program holds it -/
def lastV : Option (Int × Lnk) → V
  | none => .non
  | some (l, _) => .int l
def PrevOk (prev : Option (Int × Lnk)) (Ls : List Lnk) : Prop := match prev with
  | none => Ls = []
  | some (_, P) => ∃ Ls', Ls = Ls' ++ [P]
theorem gb_none {prev : Option (Int × Lnk)} {k : Int} {L : Lnk} (h : ¬ (!decide (lastV prev = V.non)) = true) : gapBad prev k L = false := by
  cases prev with
  | none => rfl
  | some p => exact absurd rfl h
theorem ok_links {w : World} {K : Fg} {mg : Str → Option Value} {base : Heap} (T : Top K mg) (D_entry_key : Df PR w K mg base 1 "entry_key" [] (spKey K)) (D_entry_growth : Df PR w K mg base 1 "entry_growth" [] (spGrow K)) (D_gap_size : Df PR w K mg base 1 "gap_size" [] (spGap K)) (D_make_link : Df PR w K mg base 2 "make_link" [] (spLink K)) : FnA PR w K mg base 3 (He.ga K "links") [] ((spLinks K)) := by
  obtain ⟨_, fd, F⟩ := T.f_links
  refine fna_d0 F sc_links (fun vs H Q E h => ?_) (fun _ _ _ _ _ _ us hl => match us, hl with | [_, _], _ => rfl) (fun cdv A outer s H vs Q E hr h => ?_)
  · obtain ⟨a, b, us, ws, es, fs, n, rfl, hA, hB, hv, hw, ke, kf, hn, pe, pf, hz, hQ, hE⟩ := h; rfl
  obtain ⟨a, b, us, ws, es, fs, n, rfl, hA, hB, hv, hw, ke, kf, hn, pe, pf, hz, hQ, hE⟩ := h
  refine ⟨_, (pss_cons (ps_setDc (i := 2) (own := [("entry", 9)]) (g := gName 9) (tt := tYes) rfl sc_links.nd rfl rfl (sw_dict rfl rfl rfl (by decide +kernel)) (pi_list (pv 0)) (blkOk_by (own := [("entry", 9)]) (N := ["first", "second", "ours", "theirs", "growth", "last", "result", "key", "link", "entry"]) (sc := defScope s_links) (by decide +kernel)) (fun _ _ _ _ _ => (pg_name (i := 9) sc_links.nd rfl (Or.inl rfl))) (fun _ _ _ _ _ => pts_nil) (fun _ _ _ _ _ => (pe_df D_entry_key (hr.mono (by decide)) (by rfl) passLA (pa_cons (pv 9) pa_nil))) (fun _ _ _ _ _ => (pv 9)))
    (pss_cons (ps_setDc (i := 3) (own := [("entry", 9)]) (g := gName 9) (tt := tYes) rfl sc_links.nd rfl rfl (sw_dict rfl rfl rfl (by decide +kernel)) (pi_list (pv 1)) (blkOk_by (own := [("entry", 9)]) (N := ["first", "second", "ours", "theirs", "growth", "last", "result", "key", "link", "entry"]) (sc := defScope s_links) (by decide +kernel)) (fun _ _ _ _ _ => (pg_name (i := 9) sc_links.nd rfl (Or.inl rfl))) (fun _ _ _ _ _ => pts_nil) (fun _ _ _ _ _ => (pe_df D_entry_key (hr.mono (by decide)) (by rfl) passLA (pa_cons (pv 9) pa_nil))) (fun _ _ _ _ _ => (pv 9)))
    (pss_cons (ps_set (i := 4) sc_links.nd rfl (Or.inl rfl) pe_int)
    (pss_cons (ps_set (i := 5) sc_links.nd rfl (Or.inl rfl) pe_non)
    (pss_cons (ps_set (i := 6) sc_links.nd rfl (Or.inl rfl) (pe_lst pa_nil))
    (pss_cons (ps_for poOf rfl (pi_list (pe_callB (cr_sortedSet rfl) (by rfl) T.b_sorted (by decide +kernel) (pa_cons (pe_scI (own := [("entry", 9)]) (g := gName 9) (tt := tYes) rfl sc_links.nd (pi_list (pe_lst (StX.pa_star (pv 0) (StX.pa_star (pv 1) pa_nil)))) (blkOk_by (own := [("entry", 9)]) (N := ["first", "second", "ours", "theirs", "growth", "last", "result", "key", "link", "entry"]) (sc := defScope s_links) (by decide +kernel)) (fun _ _ _ _ _ => (pg_name (i := 9) sc_links.nd rfl (Or.inl rfl))) (fun _ _ _ _ _ => pts_nil) (fun _ _ _ _ _ => (pe_df D_entry_key (hr.mono (by decide)) (by rfl) passLA (pa_cons (pv 9) pa_nil)))) pa_nil))) (pg_name (i := 7) sc_links.nd rfl (Or.inl rfl)) (pss_cons (ps_set (i := 8) sc_links.nd rfl (Or.inl rfl) (pe_df D_make_link (hr.mono (by decide)) (by rfl) (fun σ => passAt tkOf σ) (pa_cons (pe_dget1 (hu_of hr) (pv 2) (pv 7) (by constructor <;> rfl)) (pa_cons (pe_dget1 (hu_of hr) (pv 3) (pv 7) (by constructor <;> rfl)) (pa_cons (pv 4) pa_nil)))))
    (pss_cons (ps_if (PW.pt (pw_and (pt_cmpR op_notN (pv 5) pe_non (nomark _)) (pw_and1 (pt_not (pt_chain op_le op_lt pe_int (pe_df D_gap_size (hr.mono (by decide)) (by rfl) passLA (pa_cons (pe_ix ix_list (pv 6) (pe_un un_neg pe_int) (fun _ _ => rfl)) (pa_cons (pv 8) pa_nil))) (pe_op op_sub (pv 7) (pv 5))))))) (pss_one (ps_raise rfl tkOf (pmk_own PySem.F.excBase_ValueError T.x_DoesNotFollow.1 T.g_DoesNotFollow T.x_DoesNotFollow.2.1 (raises_own T.x_DoesNotFollow.2.2.1 T.x_DoesNotFollow.2.2.2) (by rfl)))) pss_nil)
    (pss_cons (ps_expr (pe_bm PySem.F.plainAttrs_list PySem.F.slot_list_append PySem.F.type_list_append mt_append (pv 6) (pa_cons (pv 8) pa_nil)))
    (pss_cons (ps_set (i := 5) sc_links.nd rfl (Or.inl rfl) (pv 7))
    (pss_one (ps_if (pt_cmp (pc_din (hu_of hr) (pv 7) (pv 2))) (pss_one (ps_set (i := 4) sc_links.nd rfl (Or.inl rfl) (pe_op op_add (pv 4) (pe_df D_entry_growth (hr.mono (by decide)) (by rfl) passLA (pa_cons (pe_dget (hu_of hr) (pv 2) (pv 7) (fun _ _ => rfl)) pa_nil))))) pss_nil)))))))
    (pss_one (ps_ret (pv 6))))))))), ?_⟩
  have lu := hv.len
  have lw := hw.len
  have keyStep : ∀ (es : List Ent) (us : List V) (H1 : Hp), All2 (VE K H1) us es → (∀ e ∈ es, KeyOk n e) → ∀ (i : Nat) x k H2, us[i]? = some x → (es.map Ent.key)[i]? = some k → Ex H1 H2 → ∃ e, VE K H2 x e ∧ KeyOk n e ∧ e.key = k := by
    intro es us H1 hv ke i x k H2 hx hk e2
    obtain ⟨e, he, hve⟩ := hv.get hx
    rw [List.getElem?_map, he] at hk
    exact ⟨e, hve.ex (ExN.of e2), ke e (List.mem_of_getElem? he), Option.some.inj hk⟩
  refine ⟨_, rfl, a, rfl, ⟨us, hA⟩, fun d1 hd1 => ?_⟩
  refine dc_keys (ks := es.map Ent.key) hA (szK (by omega)) hd1 (by rw [List.length_map, lu]) pe (fun _ => rfl) (fun i x k H2 Q' hx hk e2 q => ?_) (fun i x H2 Q' hx e2 q => ⟨_, rfl, q⟩) fun H2 e2 hd1' => ?_
  · obtain ⟨e, h1, h2, h3⟩ := keyStep es us H hv ke i x k H2 hx hk e2
    exact ⟨_, rfl, x, e, n, rfl, h1, h2, hn, by rw [h3]; exact q H2 (Ex.refl _)⟩
  refine ⟨_, rfl, b, rfl, ⟨ws, ex_l e2 hB⟩, fun d2 hd2 => ?_⟩
  refine dc_keys (ks := fs.map Ent.key) (ex_l e2 hB) (szK (by omega)) hd2 (by rw [List.length_map, lw]) pf (fun _ => rfl) (fun i x k H3 Q' hx hk e3 q => ?_) (fun i x H3 Q' hx e3 q => ⟨_, rfl, q⟩) fun H3 e3 hd2' => ?_
  · obtain ⟨e, h1, h2, h3⟩ := keyStep fs ws H hw kf i x k H3 hx hk (e2.trans e3)
    exact ⟨_, rfl, x, e, n, rfl, h1, h2, hn, by rw [h3]; exact q H3 (Ex.refl _)⟩
  have hd1'' := e3 _ _ hd1'
  have eH3 := e2.trans e3
  refine ⟨Nat.zero_le _, fun D hD => ?_⟩
  have hDH : H D = none := fresh_back eH3 hD
  have e4 : Ex H3 (upd H3 D (.lst [])) := Ex.new hD
  refine ⟨_, rfl, a, us, rfl, .inr (ex_l (eH3.trans e4) hA), _, rfl, b, ws, rfl, .inr (ex_l (eH3.trans e4) hB), ?_, fun p hp => ⟨p, rfl, ⟨_, sq_of upd_same⟩, fun S hS => ?_⟩⟩
  · rw [List.append_nil, List.length_append]
    exact Nat.le_of_lt (szK (by omega))
  have hlen : (us ++ (ws ++ [])).length = ((es ++ fs).map Ent.key).length := by
    rw [List.append_nil, List.length_append, List.length_map, List.length_append]
    omega
  have e5 := Ex.new (o := .lst (us ++ (ws ++ []))) hp
  refine sc_keys (w := w) (ks := (es ++ fs).map Ent.key) (sq_of upd_same) (by rw [hlen, List.length_map, List.length_append]; omega) hS hlen.symm (fun _ => rfl) (fun i x k H4 Q' hx hk e6 q => ?_) fun H4 S' m e6 hS' hm hmn => ?_
  · have hall : All2 (VE K H) (us ++ (ws ++ [])) (es ++ fs) := by
      rw [List.append_nil]
      exact hv.app hw
    have hko : ∀ e ∈ es ++ fs, KeyOk n e := fun e he => (List.mem_append.mp he).elim (ke e) (kf e)
    obtain ⟨e, h1, h2, h3⟩ := keyStep (es ++ fs) (us ++ (ws ++ [])) H hall hko i x k H4 hx hk (((eH3.trans e4).trans e5).trans e6)
    exact ⟨_, rfl, x, e, n, rfl, h1, h2, hn, by rw [h3]; exact q H4 (Ex.refl _)⟩
  rw [List.length_map, List.length_append] at hmn
  refine ⟨S, S', m, rfl, hS', by omega, fun ns L pw mem hnlen hL => ⟨L, rfl, ⟨_, sq_of upd_same⟩, ?_⟩⟩
  have hns : ns = keysOf es fs := keysU_rise pw fun x => by rw [mem, hm]
  have eA : Ex H (upd H4 L (.lst (ns.map V.int))) := (((eH3.trans e4).trans e5).trans e6).trans (Ex.new hL)
  have e34 : Ex (upd H3 D (.lst [])) (upd H4 L (.lst (ns.map V.int))) := (e5.trans e6).trans (Ex.new hL)
  have hDl : upd H4 L (.lst (ns.map V.int)) D = some (.lst []) := e34 _ _ upd_same
  have hd1l : upd H4 L (.lst (ns.map V.int)) d1 = some (.dK (dkOf (es.map Ent.key) us)) := e34 _ _ (e4 _ _ hd1'')
  have hd2l : upd H4 L (.lst (ns.map V.int)) d2 = some (.dK (dkOf (fs.map Ent.key) ws)) := e34 _ _ (e4 _ _ hd2')
  have hLl : upd H4 L (.lst (ns.map V.int)) L = some (.lst (ns.map V.int)) := upd_same
  have hDL : L ≠ D := fun z => by
    rw [z] at hL
    have := (e5.trans e6) _ _ (show upd H3 D (.lst []) D = some (.lst []) from upd_same)
    rw [hL] at this
    cases this
  generalize upd H4 L (.lst (ns.map V.int)) = HL at eA e34 hDl hd1l hd2l hLl
  have hD1 : d1 ≠ D := fun z => by rw [z, hDl] at hd1l; cases hd1l
  have hD2 : d2 ≠ D := fun z => by rw [z, hDl] at hd2l; cases hd2l
  refine for_list (K := K) (a := L) (xs := ns.map V.int) (fun i σ H' => ExB D HL H' ∧ Ex H H' ∧ ∃ Ls ws' g prev m7 m8 m9, H' D = some (.lst ws') ∧ All2 (VL K H') ws' Ls ∧ Ls.length = i ∧ PrevOk prev Ls ∧
      linksM es fs = (linksG (findE es) (findE fs) (ns.drop i) g prev).map (Ls ++ ·) ∧ σ = [some (.ref a), some (.ref b), some (.ref d1), some (.ref d2), some (.int g), some (lastV prev), some (.ref D), m7, m8, m9])
    ⟨ExB.refl _ _, eA, [], [], 0, none, _, _, _, hDl, .nil, rfl, rfl, ?_, rfl⟩ (fun i σ H' _ p => sq_of (p.1 _ _ hDL hLl)) ?_ ?_
  · unfold linksM
    rw [← hns, List.drop_zero]
    show _ = Option.map (fun x => [] ++ x) _
    simp
  · rintro i x σ H' hx ⟨eB, eH, Ls, ws', g, prev, m7, m8, m9, hD', hLs, hl, hprev, heq, rfl⟩
    rw [List.getElem?_map] at hx
    obtain ⟨k, hk, rfl⟩ := Option.map_eq_some_iff.mp hx
    have hi := (List.getElem?_eq_some_iff.mp hk).1
    have hdrop : ns.drop i = k :: ns.drop (i + 1) := by
      rw [List.drop_eq_getElem_cons hi, ← Option.some.inj ((List.getElem?_eq_getElem hi).symm.trans hk)]
    rw [hdrop] at heq
    have g1 := eB _ _ hD1 hd1l
    have g2 := eB _ _ hD2 hd2l
    obtain ⟨v1, s1⟩ := get_voe pe (ves_ex (ExN.of eH) hv) k
    obtain ⟨v2, s2⟩ := get_voe pf (ves_ex (ExN.of eH) hw) k
    have hkm : k ∈ (es ++ fs).map Ent.key := by
      have hm2 : k ∈ keysOf es fs := by rw [← hns]; exact List.mem_of_getElem? hk
      exact mem_keysU.mp hm2
    refine ⟨_, rfl, d1, rfl, .inl ⟨_, .inl g1⟩, _, rfl, _, DGet.k (k := Sum.inl k) g1, ?_⟩
    refine ⟨_, rfl, d2, rfl, .inl ⟨_, .inl g2⟩, _, rfl, _, DGet.k (k := Sum.inl k) g2, _, rfl, ?_⟩
    refine ⟨_, _, g, findE es k, findE fs k, rfl, v1, v2, fun z1 z2 => ?_, fun Lk t H2 hlk e7 hVL => ?_, fun hlk => ?_⟩
    · rw [List.map_append, List.mem_append, keyO_eq, keyO_eq, z1, z2] at hkm
      exact hkm.elim (fun z => by cases z) fun z => by cases z
    · have gs : linksM es fs = (match gapBad prev k Lk with
        | true => none
        | false => (linksG (findE es) (findE fs) (ns.drop (i + 1)) (g + growO (findE es k)) (some (k, Lk))).map (Lk :: ·)).map (Ls ++ ·) := by
        rw [heq]
        show Option.map _ (match linkM (findE es k) (findE fs k) g with | none => none | some L => _) = _
        rw [hlk]
        try rfl
      have hD2' := e7 _ _ hD'
      have hd1'' := e7 _ _ g1
      have hlt : ws'.length = i := by rw [hLs.len, hl]
      have hnl : ns.length ≤ 100000 := by omega
      refine ⟨_, rfl, rfl, _, rfl, ?_⟩
      refine (fun (fin : gapBad prev k Lk = false → _) => ite2 (fun h => ?_) fun h => iteF (fin (gb_none h))) fun hgb => ?_
      · cases prev with
        | none => exact absurd h (by decide)
        | some pr =>
          obtain ⟨l, P⟩ := pr
          obtain ⟨Ls', rfl⟩ := hprev
          have hP : (Ls' ++ [P])[Ls'.length]? = some P := by simp
          obtain ⟨vP, hvP, hVP⟩ := hLs.get' hP
          have hVP' := hVP.ex (ExN.of e7)
          obtain ⟨tP, x1, y1, z1, rfl, hP1, hP2, _, _⟩ := hVP'
          obtain ⟨tL, x2, y2, z2, rfl, hL1, _, _, _⟩ := id hVL
          have hat : atI ws' (-1) = some (.ref tP) := atI_end (by rw [hlt, ← hl, List.length_append]; rfl) hvP
          refine ⟨_, rfl, _, rfl, _, _, _, _, rfl, rfl, sq_of hD2', hat, _, rfl, tP, tL, P.p, Lk.p, x1, _, _, rfl, hP1, hL1, ?_⟩
          refine ⟨_, _, rfl, rfl, _, rfl, ?_⟩
          have eg : Lk.p - P.p - b2 (!decide (x1 = V.non)) = gapL P Lk := by
            rw [hP2.isN]
            unfold gapL
            cases P.a <;> rfl
          rw [eg]
          have bad : gapBad (some (l, P)) k Lk = true → E (.ref (He.ga K "DoesNotFollow")) none H2 := fun hb => hE (by rw [gs, hb]; rfl) H2 (eH.trans e7)
          by_cases h1 : 0 ≤ gapL P Lk
          · refine ifT (decide_eq_true h1) ⟨_, rfl, _, rfl, _, _, rfl, rfl, _, _, rfl, rfl, _, rfl, ?_⟩
            by_cases h2 : gapL P Lk < k - l
            · refine ifF (by show (!decide (gapL P Lk < k - l)) = false; rw [decide_eq_true h2]; rfl) (fin ?_)
              show (!(decide (0 ≤ gapL P Lk) && decide (gapL P Lk < k - l))) = false
              rw [decide_eq_true h1, decide_eq_true h2]
              rfl
            · refine ifT (by show (!decide (gapL P Lk < k - l)) = true; rw [decide_eq_false h2]; rfl) (bad ?_)
              show (!(decide (0 ≤ gapL P Lk) && decide (gapL P Lk < k - l))) = true
              rw [decide_eq_false h2, Bool.and_false]
              rfl
          · refine ifF (decide_eq_false h1) ?_
            refine ⟨_, rfl, ?_⟩
            refine ifT rfl (bad ?_)
            show (!(decide (0 ≤ gapL P Lk) && decide (gapL P Lk < k - l))) = true
            rw [decide_eq_false h1]
            rfl
      · refine ⟨_, rfl, .inl ⟨rfl, _, sq_of hD2'⟩, _, rfl, D, ws', _, rfl, rfl, hD2', szK (by omega), ?_⟩
        have eN : ExN H2 (upd H2 D (.lst (ws' ++ [t]))) := ExN.list hD2'
        have hd1u : upd H2 D (.lst (ws' ++ [t])) d1 = some (.dK (dkOf (es.map Ent.key) us)) := by rw [upd_ne hD1]; exact hd1''
        have eHu : Ex H (upd H2 D (.lst (ws' ++ [t]))) := Ex.mut (eH.trans e7) hDH
        refine ⟨_, rfl, ?_⟩
        refine ⟨_, rfl, _, rfl, d1, _, rfl, DGet.k (k := Sum.inl k) hd1u, _, rfl, ?_⟩
        have done : ∀ g', g' = g + growO (findE es k) → ExB D HL (upd H2 D (.lst (ws' ++ [t]))) ∧ Ex H (upd H2 D (.lst (ws' ++ [t]))) ∧ ∃ Ls ws'' g prev n7 n8 n9, upd H2 D (.lst (ws' ++ [t])) D = some (.lst ws'') ∧ All2 (VL K (upd H2 D (.lst (ws' ++ [t])))) ws'' Ls ∧ Ls.length = i + 1 ∧ PrevOk prev Ls ∧
            linksM es fs = (linksG (findE es) (findE fs) (ns.drop (i + 1)) g prev).map (Ls ++ ·) ∧ [some (.ref a), some (.ref b), some (.ref d1), some (.ref d2), some (.int g'), some (.int k), some (.ref D), some (.int k), some t, m9] = [some (.ref a), some (.ref b), some (.ref d1), some (.ref d2), some (.int g), some (lastV prev), some (.ref D), n7, n8, n9] := by
          intro g' hg'
          refine ⟨(eB.ex e7).upd, eHu, Ls ++ [Lk], _, g', some (k, Lk), _, _, _, upd_same, ?_, by rw [List.length_append, hl]; rfl, ⟨Ls, rfl⟩, ?_, rfl⟩
          · exact (hLs.imp fun _ _ z => z.ex ((ExN.of e7).trans eN)).app (.cons (hVL.ex eN) .nil)
          · rw [gs, hgb, hg']
            show Option.map _ (Option.map _ _) = _
            rw [Option.map_map]
            congr 1
            funext z
            show Ls ++ Lk :: z = (Ls ++ [Lk]) ++ z
            rw [List.append_assoc]
            rfl
        refine ite2 (fun h => ?_) fun h => ?_
        · cases hv : valV (dkOf (es.map Ent.key) us) (Sum.inl k) with
          | none =>
            rw [hv] at h
            cases h
          | some v =>
            rw [hv] at v1 s1
            cases hf : findE es k with
            | none =>
              rw [hf] at s1
              cases s1
            | some e =>
              rw [hf] at v1
              have v1' : VE K H' v e := v1
              refine ⟨_, rfl, _, rfl, _, rfl, _, v, rfl, by rw [← hv]; exact DGet.k (k := Sum.inl k) hd1u, v, e, rfl, v1'.ex ((ExN.of e7).trans eN), _, _, rfl, rfl, ?_⟩
              exact done _ (by rw [hf]; rfl)
        · have hf : findE es k = none := by
            cases hf : findE es k with
            | none => rfl
            | some e =>
              rw [hf] at s1
              exact absurd s1 h
          exact done _ (by rw [hf]; show g = g + 0; omega)
    · refine hE ?_ _ eH
      rw [heq]
      show Option.map _ (match linkM (findE es k) (findE fs k) g with | none => none | some L => _) = _
      rw [hlk]
      rfl
  · rintro σ H' ⟨eB, eH, Ls, ws', g, prev, m7, m8, m9, hD', hLs, hl, hprev, heq, rfl⟩
    rw [List.length_map, List.drop_length] at heq
    refine ⟨_, rfl, hQ Ls D ws' H' ?_ hDH eH hD' hLs⟩
    rw [heq]
    show some (Ls ++ []) = _
    rw [List.append_nil]

end Kx

end

section
set_option Elab.async false
set_option linter.all false
set_option maxRecDepth 100000
set_option maxHeartbeats 4000000
namespace Kx
open PySem PySem.Spec PyProof.Rows L2 Evl Pl
/-! ### layers -/
def CL (K : Fg) : Addr := He.ga K "Layer"
theorem iter_Layer {w : World} {K : Fg} {mg : Str → Option Value} {base : Heap} (T : Top K mg) : FnS PR w K mg base (L2.CX PR w) 1 (He.ma K (He.ga K "Layer") "__iter__") (spIter K (He.ga K "Layer") 0) := by
  obtain ⟨_, fd, F⟩ := T.m_Layer_iter
  refine fnS_of F sc_Layer_iter (fun s vs H Q E h => ?_) (F.bindsN fun _ _ _ _ _ _ us hl => match us, hl with | [_], _ => rfl) fun cdv A outer s H vs Q E hr h => ?_
  · obtain ⟨a, dx, sv, l, zs, rfl, _⟩ := h
    rfl
  obtain ⟨a, dx, sv, l, zs, rfl, hsl, hi, hz, hQ⟩ := h
  refine ⟨_, (pss_one (ps_ret (pe_callB ItX.call_iterN (by rfl) T.b_iter (by decide +kernel) (pa_cons (SlX.pe_sl (pv 0)) pa_nil)))), ?_⟩
  exact ⟨_, rfl, a, _, dx, _, sv, 0, _, rfl, hsl, T.c_Layer, T.s_Layer__entries, hi, l, zs, rfl, hz, hQ⟩
theorem ok_Layer_len {w : World} {K : Fg} {mg : Str → Option Value} {base : Heap} (T : Top K mg)  : FnA PR w K mg base 1 (He.ma K (He.ga K "Layer") "__len__") [] ((spLen K (He.ga K "Layer") 0)) := by
  obtain ⟨_, fd, F⟩ := T.m_Layer_len
  refine fna_d0 F sc_Layer_len (fun vs H Q E h => ?_) (fun _ _ _ _ _ _ us hl => match us, hl with | [_], _ => rfl) (fun cdv A outer s H vs Q E hr h => ?_)
  · obtain ⟨a, dx, sv, l, zs, rfl, hsl, hi, hz, hQ⟩ := h; rfl
  obtain ⟨a, dx, sv, l, zs, rfl, hsl, hi, hz, hQ⟩ := h
  refine ⟨_, (pss_one (ps_ret (pe_callB call_len_seq (by rfl) T.b_len (by decide +kernel) (pa_cons (SlX.pe_sl (pv 0)) pa_nil)))), ?_⟩
  exact ⟨_, rfl, a, _, dx, _, sv, 0, _, rfl, hsl, T.c_Layer, T.s_Layer__entries, hi, _, _, rfl, .inl hz, hQ⟩
def spLayInit (K : Fg) : Sp := fun vs H Q _ => ∃ (x dx a : Addr) (L : Bool) (us : List V) (es : List Ent) (n : Nat), vs = [.ref x, .int (n : Int), .ref a] ∧ Fresh H x (He.ga K "Layer") dx ∧ EnS K L a us H ∧ All2 (VE K H) us es ∧ 1 ≤ n ∧ n ≤ 1000 ∧ EntsOk n es ∧ es.length ≤ 100000 ∧
  ∀ H', ExI x dx H H' → VLay K H' (He.ga K "Layer") x n es → Q .non H'
theorem walk_Layer_init {w : World} {K : Fg} {mg : Str → Option Value} {base : Heap} (T : Top K mg) (D_check_width : Df PR w K mg base 2 "check_width" [] spCheckWidth) (D_check_entries : Df PR w K mg base 4 "check_entries" [] (spCheckEntries K)) (D_entry_key : Df PR w K mg base 1 "entry_key" [] (spKey K)) : Walked PR w K mg base 5 ["self", "width", "entries", "entry"] "Layer.__init__" s_Layer_init (initAt K "Layer") ((spLayInit K)) := by
  intro cdv A outer s H vs Q E hr h
  obtain ⟨x, dx, a, L, us, es, n, rfl, fr, hS, hv, hn, hn2, ok, hz, hQ⟩ := h
  refine ⟨_, (pss_cons (ps_expr (pe_df D_check_width (hr.mono (by decide)) (by rfl) passLA (pa_cons (pv 1) pa_nil)))
    (pss_cons (SlX.ps_sl (pv 0) (pv 1))
    (pss_cons (SlX.ps_sl (pv 0) (pe_df D_check_entries (hr.mono (by decide)) (by rfl) passLA (pa_cons (pv 1) (pa_cons (pv 2) pa_nil))))
    (pss_one (SlX.ps_sl (pv 0) (pe_lc (own := [("entry", 3)]) (g := gName 3) (tt := tYes) rfl sc_Layer_init.nd (pi_list (SlX.pe_sl (pv 0))) (blkOk_by (own := [("entry", 3)]) (N := ["self", "width", "entries", "entry"]) (sc := defScope s_Layer_init) (by decide +kernel)) (fun _ _ _ _ _ => (pg_name (i := 3) sc_Layer_init.nd rfl (Or.inl rfl))) (fun _ _ _ _ _ => pts_nil) (fun _ _ _ _ _ => (pe_df D_entry_key (hr.mono (by decide)) (by rfl) passLA (pa_cons (pv 3) pa_nil))))))))), ?_⟩
  refine ⟨_, rfl, (n : Int), rfl, by omega, ?_⟩
  refine ⟨_, rfl, _, rfl, x, _, dx, _, [], 2, rfl, .inl ⟨fr.ins, rfl⟩, T.c_Layer, T.s_Layer_width, ?_⟩
  have e1 : ExI x dx H (SlX.slH H x (He.ga K "Layer") dx (SlX.putS 2 (V.int (n : Int)) [])) := ExI.refl.sl
  refine ⟨_, rfl, _, rfl, L, a, us, es, n, rfl, fr.en e1 hS, ves_ex (fr.exN e1) hv, hn, hn2, ok, hz, fun le H2 hle e2 hl2 => ?_⟩
  have s1 : SlX.Slt H2 x (He.ga K "Layer") dx (SlX.putS 2 (V.int (n : Int)) []) := ex_slt e2 (SlX.slH_slt fr.ne)
  refine ⟨_, rfl, x, _, dx, _, _, 0, rfl, s1, T.c_Layer, T.s_Layer__entries, ?_⟩
  have e3 : ExI x dx H (SlX.slH H2 x (He.ga K "Layer") dx (SlX.putS 0 (V.ref le) (SlX.putS 2 (V.int (n : Int)) []))) := (e1.ex e2).sl
  have nle : le ≠ x ∧ le ≠ dx := by
    constructor
    · intro z
      rcases s1 with ⟨h, _⟩ | ⟨h, _⟩ <;> (rw [← z, hl2] at h; cases h)
    · intro z
      rcases SlX.slH_slt (H := H) (C := He.ga K "Layer") (vs := SlX.putS 2 (V.int (n : Int)) []) fr.ne with ⟨h, hh⟩ | ⟨_, h⟩
      · cases hh
      · have h' := e2 _ _ h
        rw [← z, hl2] at h'
        cases h'
  have hle3 : SlX.slH H2 x (He.ga K "Layer") dx (SlX.putS 0 (V.ref le) (SlX.putS 2 (V.int (n : Int)) [])) le = some (.lst us) := by rw [SlX.slH_ne nle.1 nle.2]; exact hl2
  have s3 : SlX.Slt (SlX.slH H2 x (He.ga K "Layer") dx (SlX.putS 0 (V.ref le) (SlX.putS 2 (V.int (n : Int)) []))) x (He.ga K "Layer") dx (SlX.putS 0 (V.ref le) (SlX.putS 2 (V.int (n : Int)) [])) := SlX.slH_slt fr.ne
  generalize SlX.slH H2 x (He.ga K "Layer") dx (SlX.putS 0 (V.ref le) (SlX.putS 2 (V.int (n : Int)) [])) = H3 at e3 hle3 s3 ⊢
  refine ⟨_, rfl, x, _, dx, _, _, 0, _, rfl, s3, T.c_Layer, T.s_Layer__entries, rfl, le, rfl, ⟨us, sq_of hle3⟩, fun D hD => ?_⟩
  have lu := hv.len
  refine lc_mapN (ys := vis (es.map Ent.key)) (sq_of hle3) (szK (by omega)) hD (by rw [vis_len, List.length_map, lu]) (fun _ => rfl) (fun i z y H4 Q' hx hy e4 q => ?_) fun H4 e4 hy => ?_
  · obtain ⟨e, he, hve⟩ := hv.get hx
    rw [List.getElem?_map, List.getElem?_map, he] at hy
    have ey : y = .int e.key := (Option.some.inj hy).symm
    subst ey
    exact ⟨_, rfl, z, e, n, rfl, hve.ex ((fr.exN e3).trans (ExN.of e4)), (ok.all e (List.mem_of_getElem? he)).key, hn, q H4 (Ex.refl _)⟩
  refine ⟨_, rfl, x, _, dx, _, _, 1, rfl, ex_slt e4 s3, T.c_Layer, T.s_Layer__key_list, ?_⟩
  refine hQ _ (e3.ex e4).sl ⟨dx, le, D, us, SlX.slH_slt fr.ne, ?_, ves_ex (fr.exN (e3.ex e4).sl) hv, ?_⟩
  · refine sq_of ?_
    rw [SlX.slH_ne nle.1 nle.2]
    exact e4 _ _ hle3
  · refine sq_of ?_
    have n1 : D ≠ x := fun z => by
      have hh : H3 x = none := by rw [← z]; exact hD
      rcases s3 with ⟨h, _⟩ | ⟨h, _⟩ <;> (rw [hh] at h; cases h)
    have n2 : D ≠ dx := fun z => by
      rcases s3 with ⟨_, h⟩ | ⟨_, h⟩
      · cases h
      · rw [← z, hD] at h
        cases h
    rw [SlX.slH_ne n1 n2]
    exact hy

end Kx

end

section
set_option Elab.async false
set_option linter.all false
set_option maxRecDepth 100000
set_option maxHeartbeats 4000000
namespace Kx
open PySem PySem.Spec PyProof.Rows L2 Evl Pl
theorem len_LayInit {K : Fg} : Len ["self", "width", "entries"] (spLayInit K) := by
  rintro vs H Q E ⟨x, dx, a, L, us, es, n, rfl, _⟩
  rfl
section
variable {w : World} {K : Fg} {mg : Str → Option Value} {base : Heap} (T : Top K mg) (D_check_width : Df PR w K mg base 2 "check_width" [] spCheckWidth) (D_check_entries : Df PR w K mg base 4 "check_entries" [] (spCheckEntries K)) (D_entry_key : Df PR w K mg base 1 "entry_key" [] (spKey K))
include T D_check_width D_check_entries D_entry_key
theorem mk_Layer2 : Mkr PR w K mg base 6 (He.ga K "Layer") [] (spLayInit K) := by
  obtain ⟨M, fd, F⟩ := T.i_Layer
  exact ⟨_, M, fna_full F sc_Layer_init len_LayInit (fun _ _ _ _ _ _ _ us its h1 h2 => match us, its, h1, h2 with | [_, _, _], [_], _, _ => ⟨_, rfl, rfl⟩) (walk_Layer_init T D_check_width D_check_entries D_entry_key)⟩
theorem mk_Layer1 : Mkr PR w K mg base 6 (He.ga K "Layer") [] (fun vs H Q E => spLayInit K (vs ++ [.ref (dfAd "Layer" K)]) H Q E) := by
  obtain ⟨M, fd, F⟩ := T.i_Layer
  exact ⟨_, M, fna_fill F sc_Layer_init len_LayInit 2 rfl (fun _ _ _ _ _ _ _ us its h1 h2 => match us, its, h1, h2 with | [_, _], [_], _, _ => ⟨_, rfl, rfl⟩) (walk_Layer_init T D_check_width D_check_entries D_entry_key)⟩
end
def spLayEmpty (K : Fg) : Sp := fun vs H Q _ => ∃ n : Nat, vs = [.ref (He.ga K "Layer"), .int (n : Int)] ∧ 1 ≤ n ∧ n ≤ 1000 ∧ ∀ x H', H x = none → Ex H H' → VLay K H' (He.ga K "Layer") x n [] → Q (.ref x) H'
theorem entsOk_nil {n : Nat} : EntsOk n [] := ⟨fun _ h => by simp at h, trivial⟩
theorem ok_Layer_empty {w : World} {K : Fg} {mg : Str → Option Value} {base : Heap} (T : Top K mg) (M_Layer1 : Mkr PR w K mg base 6 (He.ga K "Layer") [] (fun vs H Q E => spLayInit K (vs ++ [.ref (dfAd "Layer" K)]) H Q E)) : FnA PR w K mg base 8 ((At.cm "Layer" "empty").ad K) [] ((spLayEmpty K)) := by
  obtain ⟨_, fd, F⟩ := T.cm_Layer_empty.2
  refine fna_d0 F sc_Layer_empty (fun vs H Q E h => ?_) (fun _ _ _ _ _ _ us hl => match us, hl with | [_, _], _ => rfl) (fun cdv A outer s H vs Q E hr h => ?_)
  · obtain ⟨n, rfl, hn, hn2, hQ⟩ := h; rfl
  obtain ⟨n, rfl, hn, hn2, hQ⟩ := h
  refine ⟨_, (pss_one (ps_ret (pe_mkV (i := 0) M_Layer1 (hr.mono (by decide)) rfl (Or.inl rfl) passLA (pa_cons (pv 1) pa_nil)))), ?_⟩
  refine ⟨rfl, _, rfl, rfl, fun x dx hx hdx hne => ?_⟩
  refine ⟨x, dx, _, false, [], [], n, rfl, fresh_of hne, T.e_Layer _, .nil, hn, hn2, entsOk_nil, Nat.zero_le _, fun H' e h => ⟨rfl, ?_⟩⟩
  exact hQ x H' hx (ExI.new hx hdx e) h
def spLayEntry (K : Fg) : Sp := fun vs H Q _ => ∃ (x : Addr) (k : Int) (n : Nat) (es : List Ent), vs = [.ref x, .int k] ∧ VLay K H (He.ga K "Layer") x n es ∧ (es.map Ent.key).Pairwise (· < ·) ∧ ∀ v, VOE K H v (findE es k) → Q v H
theorem ok_Layer_entry {w : World} {K : Fg} {mg : Str → Option Value} {base : Heap} (T : Top K mg) (D_count_below : Df PR w K mg base 1 "count_below" [] (spCount K)) : FnA PR w K mg base 2 (He.ma K (He.ga K "Layer") "entry") [] ((spLayEntry K)) := by
  obtain ⟨_, fd, F⟩ := T.m_Layer_entry
  refine fna_d0 F sc_Layer_entry (fun vs H Q E h => ?_) (fun _ _ _ _ _ _ us hl => match us, hl with | [_, _], _ => rfl) (fun cdv A outer s H vs Q E hr h => ?_)
  · obtain ⟨x, k, n, es, rfl, ⟨dx, le, lk, us, hsl, hle, hv, hlk⟩, hp, hQ⟩ := h; rfl
  obtain ⟨x, k, n, es, rfl, ⟨dx, le, lk, us, hsl, hle, hv, hlk⟩, hp, hQ⟩ := h
  refine ⟨_, (pss_cons (ps_set (i := 2) sc_Layer_entry.nd rfl (Or.inl rfl) (pe_df D_count_below (hr.mono (by decide)) (by rfl) passLA (pa_cons (SlX.pe_sl (pv 0)) (pa_cons (pv 1) pa_nil))))
    (pss_cons (ps_if (PW.pt (pw_and (pt_cmpR op_lt (pv 2) (pe_callB call_len_seq (by rfl) T.b_len (by decide +kernel) (pa_cons (SlX.pe_sl (pv 0)) pa_nil)) (nomark _)) (pw_and1 (pt_cmpR op_eq (pe_ix ix_list (SlX.pe_sl (pv 0)) (pv 2) (fun _ _ => rfl)) (pv 1) (nomark _))))) (pss_one (ps_ret (pe_ix ix_list (SlX.pe_sl (pv 0)) (pv 2) (fun _ _ => rfl)))) pss_nil)
    (pss_one (ps_ret pe_non)))), ?_⟩
  refine ⟨_, rfl, x, _, dx, _, _, 1, _, rfl, hsl, T.c_Layer, T.s_Layer__key_list, rfl, _, rfl, lk, es.map Ent.key, k, rfl, hlk, hp, fun c hc => ?_⟩
  have lu := hv.len
  have hcm := cut_mem hp hc
  refine ⟨_, rfl, _, rfl, x, _, dx, _, _, 1, _, rfl, hsl, T.c_Layer, T.s_Layer__key_list, rfl, _, _, rfl, .inl hlk, _, _, rfl, rfl, _, rfl, ?_⟩
  refine (fun (fin : k ∉ es.map Ent.key → _) => ite2 (fun h => ?_) fun h => iteF (fin fun z => h ?_)) fun hk => ?_
  · have hlt : c < es.length := by
      have := of_decide_eq_true h
      rw [vis_len, List.length_map] at this
      omega
    have he : es[c]? = some es[c] := List.getElem?_eq_getElem hlt
    have hkc : (es.map Ent.key)[c]? = some es[c].key := by rw [List.getElem?_map, he]; rfl
    obtain ⟨u, hu, hve⟩ := hv.get' he
    refine ⟨_, rfl, x, _, dx, _, _, 1, _, rfl, hsl, T.c_Layer, T.s_Layer__key_list, rfl, _, rfl, lk, _, _, _, rfl, rfl, hlk, atI_nat (vis_get hkc), _, rfl, rfl, _, rfl, ?_⟩
    refine ite2 (fun h2 => ?_) fun h2 => fin fun z => h2 ?_
    · have ek : es[c].key = k := by
        have := of_decide_eq_true h2
        injection this
      refine ⟨_, rfl, x, _, dx, _, _, 0, _, rfl, hsl, T.c_Layer, T.s_Layer__entries, rfl, _, rfl, le, _, _, _, rfl, rfl, hle, atI_nat hu, hQ _ ?_⟩
      rw [← ek, findE_some hp he]
      exact hve
    · have := hcm.mp z
      rw [hkc] at this
      exact decide_eq_true (by rw [Option.some.inj this])
  · have := hcm.mp z
    obtain ⟨hl, _⟩ := List.getElem?_eq_some_iff.mp this
    refine decide_eq_true ?_
    rw [vis_len]
    omega
  · exact hQ _ (by rw [findE_none hk]; rfl)
/-! ### tables -/
theorem iter_Table {w : World} {K : Fg} {mg : Str → Option Value} {base : Heap} (T : Top K mg) : FnS PR w K mg base (L2.CX PR w) 1 (He.ma K (He.ga K "Table") "__iter__") (spIter K (He.ga K "Table") 1) := by
  obtain ⟨_, fd, F⟩ := T.m_Table_iter
  refine fnS_of F sc_Table_iter (fun s vs H Q E h => ?_) (F.bindsN fun _ _ _ _ _ _ us hl => match us, hl with | [_], _ => rfl) fun cdv A outer s H vs Q E hr h => ?_
  · obtain ⟨a, dx, sv, l, zs, rfl, _⟩ := h
    rfl
  obtain ⟨a, dx, sv, l, zs, rfl, hsl, hi, hz, hQ⟩ := h
  refine ⟨_, (pss_one (ps_ret (pe_callB ItX.call_iterN (by rfl) T.b_iter (by decide +kernel) (pa_cons (SlX.pe_sl (pv 0)) pa_nil)))), ?_⟩
  exact ⟨_, rfl, a, _, dx, _, sv, 1, _, rfl, hsl, T.c_Table, T.s_Table__rows, hi, l, zs, rfl, hz, hQ⟩
theorem ok_Table_len {w : World} {K : Fg} {mg : Str → Option Value} {base : Heap} (T : Top K mg)  : FnA PR w K mg base 1 (He.ma K (He.ga K "Table") "__len__") [] ((spLen K (He.ga K "Table") 1)) := by
  obtain ⟨_, fd, F⟩ := T.m_Table_len
  refine fna_d0 F sc_Table_len (fun vs H Q E h => ?_) (fun _ _ _ _ _ _ us hl => match us, hl with | [_], _ => rfl) (fun cdv A outer s H vs Q E hr h => ?_)
  · obtain ⟨a, dx, sv, l, zs, rfl, hsl, hi, hz, hQ⟩ := h; rfl
  obtain ⟨a, dx, sv, l, zs, rfl, hsl, hi, hz, hQ⟩ := h
  refine ⟨_, (pss_one (ps_ret (pe_callB call_len_seq (by rfl) T.b_len (by decide +kernel) (pa_cons (SlX.pe_sl (pv 0)) pa_nil)))), ?_⟩
  exact ⟨_, rfl, a, _, dx, _, sv, 1, _, rfl, hsl, T.c_Table, T.s_Table__rows, hi, _, _, rfl, .inl hz, hQ⟩
def spTabInit (K : Fg) : Sp := fun vs H Q _ => ∃ (x dx a : Addr) (L : Bool) (us : List V) (rs : List Rwv) (n : Nat), vs = [.ref x, .int (n : Int), .ref a] ∧ Fresh H x (He.ga K "Table") dx ∧ EnS K L a us H ∧ All2 (VR K H) us rs ∧ 1 ≤ n ∧ n ≤ 1000 ∧ RowsOk n rs ∧ rs.length ≤ 100000 ∧
  ∀ H', ExI x dx H H' → VTab K H' (He.ga K "Table") x n rs → Q .non H'
theorem walk_Table_init {w : World} {K : Fg} {mg : Str → Option Value} {base : Heap} (T : Top K mg) (D_check_width : Df PR w K mg base 2 "check_width" [] spCheckWidth) (D_check_rows : Df PR w K mg base 3 "check_rows" [] (spCheckRows K)) : Walked PR w K mg base 5 ["self", "width", "rows", "row"] "Table.__init__" s_Table_init (initAt K "Table") ((spTabInit K)) := by
  intro cdv A outer s H vs Q E hr h
  obtain ⟨x, dx, a, L, us, rs, n, rfl, fr, hS, hv, hn, hn2, ok, hz, hQ⟩ := h
  refine ⟨_, (pss_cons (ps_expr (pe_df D_check_width (hr.mono (by decide)) (by rfl) passLA (pa_cons (pv 1) pa_nil)))
    (pss_cons (SlX.ps_sl (pv 0) (pv 1))
    (pss_cons (SlX.ps_sl (pv 0) (pe_df D_check_rows (hr.mono (by decide)) (by rfl) passLA (pa_cons (pv 1) (pa_cons (pv 2) pa_nil))))
    (pss_one (SlX.ps_sl (pv 0) (pe_lc (own := [("row", 3)]) (g := gName 3) (tt := tYes) rfl sc_Table_init.nd (pi_list (SlX.pe_sl (pv 0))) (blkOk_by (own := [("row", 3)]) (N := ["self", "width", "rows", "row"]) (sc := defScope s_Table_init) (by decide +kernel)) (fun _ _ _ _ _ => (pg_name (i := 3) sc_Table_init.nd rfl (Or.inl rfl))) (fun _ _ _ _ _ => pts_nil) (fun _ _ _ _ _ => (pe_ix (r := rIxT K) ix_tup (pv 3) pe_int (fun _ _ => rfl))))))))), ?_⟩
  refine ⟨_, rfl, (n : Int), rfl, by omega, ?_⟩
  refine ⟨_, rfl, _, rfl, x, _, dx, _, [], 2, rfl, .inl ⟨fr.ins, rfl⟩, T.c_Table, T.s_Table_width, ?_⟩
  have e1 : ExI x dx H (SlX.slH H x (He.ga K "Table") dx (SlX.putS 2 (V.int (n : Int)) [])) := ExI.refl.sl
  refine ⟨_, rfl, _, rfl, L, a, us, rs, n, rfl, fr.en e1 hS, vrs_ex (fr.exN e1) hv, hn, hn2, ok, hz, fun le H2 hle e2 hl2 => ?_⟩
  have s1 : SlX.Slt H2 x (He.ga K "Table") dx (SlX.putS 2 (V.int (n : Int)) []) := ex_slt e2 (SlX.slH_slt fr.ne)
  refine ⟨_, rfl, x, _, dx, _, _, 1, rfl, s1, T.c_Table, T.s_Table__rows, ?_⟩
  have e3 : ExI x dx H (SlX.slH H2 x (He.ga K "Table") dx (SlX.putS 1 (V.ref le) (SlX.putS 2 (V.int (n : Int)) []))) := (e1.ex e2).sl
  have nle : le ≠ x ∧ le ≠ dx := by
    constructor
    · intro z
      rcases s1 with ⟨h, _⟩ | ⟨h, _⟩ <;> (rw [← z, hl2] at h; cases h)
    · intro z
      rcases SlX.slH_slt (H := H) (C := He.ga K "Table") (vs := SlX.putS 2 (V.int (n : Int)) []) fr.ne with ⟨h, hh⟩ | ⟨_, h⟩
      · cases hh
      · have h' := e2 _ _ h
        rw [← z, hl2] at h'
        cases h'
  have hle3 : SlX.slH H2 x (He.ga K "Table") dx (SlX.putS 1 (V.ref le) (SlX.putS 2 (V.int (n : Int)) [])) le = some (.lst us) := by rw [SlX.slH_ne nle.1 nle.2]; exact hl2
  have s3 : SlX.Slt (SlX.slH H2 x (He.ga K "Table") dx (SlX.putS 1 (V.ref le) (SlX.putS 2 (V.int (n : Int)) []))) x (He.ga K "Table") dx (SlX.putS 1 (V.ref le) (SlX.putS 2 (V.int (n : Int)) [])) := SlX.slH_slt fr.ne
  generalize SlX.slH H2 x (He.ga K "Table") dx (SlX.putS 1 (V.ref le) (SlX.putS 2 (V.int (n : Int)) [])) = H3 at e3 hle3 s3 ⊢
  refine ⟨_, rfl, x, _, dx, _, _, 1, _, rfl, s3, T.c_Table, T.s_Table__rows, rfl, le, rfl, ⟨us, sq_of hle3⟩, fun D hD => ?_⟩
  have lu := hv.len
  refine lc_mapN (ys := vis (rs.map Rwv.key)) (sq_of hle3) (szK (by omega)) hD (by rw [vis_len, List.length_map, lu]) (fun _ => rfl) (fun i z y H4 Q' hx hy e4 q => ?_) fun H4 e4 hy => ?_
  · obtain ⟨r, hr, hvr⟩ := hv.get hx
    rw [List.getElem?_map, List.getElem?_map, hr] at hy
    have ey : y = .int r.key := (Option.some.inj hy).symm
    subst ey
    obtain ⟨b, rfl, hb⟩ := hvr.ex ((fr.exN e3).trans (ExN.of e4))
    exact ⟨_, rfl, b, _, _, _, rfl, rfl, hb, atI0 (row0 (ok.all r (List.mem_of_getElem? hr)) hn), q H4 (Ex.refl _)⟩
  refine ⟨_, rfl, x, _, dx, _, _, 0, rfl, ex_slt e4 s3, T.c_Table, T.s_Table__key_list, ?_⟩
  refine hQ _ (e3.ex e4).sl ⟨dx, D, le, us, SlX.slH_slt fr.ne, ?_, vrs_ex (fr.exN (e3.ex e4).sl) hv, ?_⟩
  · refine sq_of ?_
    rw [SlX.slH_ne nle.1 nle.2]
    exact e4 _ _ hle3
  · refine sq_of ?_
    have n1 : D ≠ x := fun z => by
      have hh : H3 x = none := by rw [← z]; exact hD
      rcases s3 with ⟨h, _⟩ | ⟨h, _⟩ <;> (rw [hh] at h; cases h)
    have n2 : D ≠ dx := fun z => by
      rcases s3 with ⟨_, h⟩ | ⟨_, h⟩
      · cases h
      · rw [← z, hD] at h
        cases h
    rw [SlX.slH_ne n1 n2]
    exact hy
theorem len_TabInit {K : Fg} : Len ["self", "width", "rows"] (spTabInit K) := by
  rintro vs H Q E ⟨x, dx, a, L, us, rs, n, rfl, _⟩
  rfl
section
variable {w : World} {K : Fg} {mg : Str → Option Value} {base : Heap} (T : Top K mg) (D_check_width : Df PR w K mg base 2 "check_width" [] spCheckWidth) (D_check_rows : Df PR w K mg base 3 "check_rows" [] (spCheckRows K))
include T D_check_width D_check_rows
theorem mk_Table2 : Mkr PR w K mg base 6 (He.ga K "Table") [] (spTabInit K) := by
  obtain ⟨M, fd, F⟩ := T.i_Table
  exact ⟨_, M, fna_full F sc_Table_init len_TabInit (fun _ _ _ _ _ _ _ us its h1 h2 => match us, its, h1, h2 with | [_, _, _], [_], _, _ => ⟨_, rfl, rfl⟩) (walk_Table_init T D_check_width D_check_rows)⟩
theorem mk_Table1 : Mkr PR w K mg base 6 (He.ga K "Table") [] (fun vs H Q E => spTabInit K (vs ++ [.ref (dfAd "Table" K)]) H Q E) := by
  obtain ⟨M, fd, F⟩ := T.i_Table
  exact ⟨_, M, fna_fill F sc_Table_init len_TabInit 2 rfl (fun _ _ _ _ _ _ _ us its h1 h2 => match us, its, h1, h2 with | [_, _], [_], _, _ => ⟨_, rfl, rfl⟩) (walk_Table_init T D_check_width D_check_rows)⟩
end
def spRank (K : Fg) : Sp := fun vs H Q _ => ∃ (x : Addr) (k : Int) (n : Nat) (rs : List Rwv), vs = [.ref x, .int k] ∧ VTab K H (He.ga K "Table") x n rs ∧ (rs.map Rwv.key).Pairwise (· < ·) ∧ ∀ c : Nat, Cut (rs.map Rwv.key) k c → Q (.int (c : Int)) H
theorem ok_Table_rank {w : World} {K : Fg} {mg : Str → Option Value} {base : Heap} (T : Top K mg) (D_count_below : Df PR w K mg base 1 "count_below" [] (spCount K)) : FnA PR w K mg base 2 (He.ma K (He.ga K "Table") "rank") [] ((spRank K)) := by
  obtain ⟨_, fd, F⟩ := T.m_Table_rank
  refine fna_d0 F sc_Table_rank (fun vs H Q E h => ?_) (fun _ _ _ _ _ _ us hl => match us, hl with | [_, _], _ => rfl) (fun cdv A outer s H vs Q E hr h => ?_)
  · obtain ⟨x, k, n, rs, rfl, ⟨dx, lk, lr, us, hsl, hlr, hv, hlk⟩, hp, hQ⟩ := h; rfl
  obtain ⟨x, k, n, rs, rfl, ⟨dx, lk, lr, us, hsl, hlr, hv, hlk⟩, hp, hQ⟩ := h
  refine ⟨_, (pss_one (ps_ret (pe_df D_count_below (hr.mono (by decide)) (by rfl) passLA (pa_cons (SlX.pe_sl (pv 0)) (pa_cons (pv 1) pa_nil))))), ?_⟩
  exact ⟨_, rfl, x, _, dx, _, _, 0, _, rfl, hsl, T.c_Table, T.s_Table__key_list, rfl, _, rfl, lk, rs.map Rwv.key, k, rfl, hlk, hp, hQ⟩
def spFind (K : Fg) : Sp := fun vs H Q _ => ∃ (x : Addr) (k : Int) (n : Nat) (rs : List Rwv), vs = [.ref x, .int k] ∧ VTab K H (He.ga K "Table") x n rs ∧ (rs.map Rwv.key).Pairwise (· < ·) ∧ ∀ v, VO K H v (findR rs k) → Q v H
theorem ok_Table_find {w : World} {K : Fg} {mg : Str → Option Value} {base : Heap} (T : Top K mg) (D_Table_rank : MtS PR w K mg base 2 (He.ga K "Table") "rank" (spRank K)) : FnA PR w K mg base 3 (He.ma K (He.ga K "Table") "find") [] ((spFind K)) := by
  obtain ⟨_, fd, F⟩ := T.m_Table_find
  refine fna_d0 F sc_Table_find (fun vs H Q E h => ?_) (fun _ _ _ _ _ _ us hl => match us, hl with | [_, _], _ => rfl) (fun cdv A outer s H vs Q E hr h => ?_)
  · obtain ⟨x, k, n, rs, rfl, ht, hp, hQ⟩ := h; rfl
  obtain ⟨x, k, n, rs, rfl, ht, hp, hQ⟩ := h
  refine ⟨_, (pss_cons (ps_set (i := 2) sc_Table_find.nd rfl (Or.inl rfl) (pe_mtS (pv 0) D_Table_rank (hr.mono (by decide)) passLA (pa_cons (pv 1) pa_nil)))
    (pss_cons (ps_if (PW.pt (pw_and (pt_cmpR op_lt (pv 2) (pe_callB call_len_seq (by rfl) T.b_len (by decide +kernel) (pa_cons (SlX.pe_sl (pv 0)) pa_nil)) (nomark _)) (pw_and1 (pt_cmpR op_eq (pe_ix ix_list (SlX.pe_sl (pv 0)) (pv 2) (fun _ _ => rfl)) (pv 1) (nomark _))))) (pss_one (ps_ret (pe_ix ix_list (SlX.pe_sl (pv 0)) (pv 2) (fun _ _ => rfl)))) pss_nil)
    (pss_one (ps_ret pe_non)))), ?_⟩
  obtain ⟨dx, lk, lr, us, hsl, hlr, hv, hlk⟩ := id ht
  refine ⟨_, rfl, x, dx, _, rfl, hsl, _, rfl, x, k, n, rs, rfl, ht, hp, fun c hc => ?_⟩
  have lu := hv.len
  have hcm := cut_mem hp hc
  refine ⟨_, rfl, _, rfl, x, _, dx, _, _, 1, _, rfl, hsl, T.c_Table, T.s_Table__rows, rfl, _, _, rfl, .inl hlr, _, _, rfl, rfl, _, rfl, ?_⟩
  refine (fun (fin : k ∉ rs.map Rwv.key → _) => ite2 (fun h => ?_) fun h => iteF (fin fun z => h ?_)) fun hk => ?_
  · have hlt : c < rs.length := by
      have := of_decide_eq_true h
      omega
    have he : rs[c]? = some rs[c] := List.getElem?_eq_getElem hlt
    have hkc : (rs.map Rwv.key)[c]? = some (Rwv.key rs[c]) := by rw [List.getElem?_map, he]; rfl
    obtain ⟨u, hu, hvr⟩ := hv.get' he
    refine ⟨_, rfl, x, _, dx, _, _, 0, _, rfl, hsl, T.c_Table, T.s_Table__key_list, rfl, _, rfl, lk, _, _, _, rfl, rfl, hlk, atI_nat (vis_get hkc), _, rfl, rfl, _, rfl, ?_⟩
    refine ite2 (fun h2 => ?_) fun h2 => fin fun z => h2 ?_
    · have ek : Rwv.key rs[c] = k := by
        have := of_decide_eq_true h2
        injection this
      refine ⟨_, rfl, x, _, dx, _, _, 1, _, rfl, hsl, T.c_Table, T.s_Table__rows, rfl, _, rfl, lr, _, _, _, rfl, rfl, hlr, atI_nat hu, hQ _ ?_⟩
      rw [← ek, findR_some hp he]
      exact hvr
    · have := hcm.mp z
      rw [hkc] at this
      exact decide_eq_true (by rw [Option.some.inj this])
  · have := hcm.mp z
    obtain ⟨hl, _⟩ := List.getElem?_eq_some_iff.mp this
    refine decide_eq_true ?_
    rw [List.length_map] at hl
    omega
  · exact hQ _ (by rw [findR_none hk]; rfl)

end Kx

end

section
set_option Elab.async false
set_option linter.all false
set_option maxRecDepth 100000
set_option maxHeartbeats 4000000
namespace Kx
open PySem PySem.Spec PyProof.Rows L2 Evl Pl
/-! ### rules, conflicts -/
def Good (s : Str) : Prop := s = ("row" : Str) ∨ s = ("column" : Str)
def spRule (K : Fg) : Sp := fun vs H Q E => ∃ s : Str, vs = [.str s] ∧ (Good s → Q .non H) ∧ (¬ Good s → ∀ d H', H d = none → Ex H H' → H' d = some (.xd [("rule", .str s)]) → E (.ref (He.ga K "InvalidRule")) (some d) H')
theorem rules_in (s : Str) : inV (.str s) [.str ("row" : Str), .str ("column" : Str)] = true ↔ Good s := by
  show ((("row" : Str) == s) || ((("column" : Str) == s) || false)) = true ↔ _
  rw [Bool.or_false, Bool.or_eq_true, beq_iff_eq, beq_iff_eq]
  exact ⟨fun h => h.imp Eq.symm Eq.symm, fun h => h.imp Eq.symm Eq.symm⟩
theorem ok_check_rule {w : World} {K : Fg} {mg : Str → Option Value} {base : Heap} (T : Top K mg)  : FnA PR w K mg base 2 (He.ga K "check_rule") [] ((spRule K)) := by
  obtain ⟨_, fd, F⟩ := T.f_check_rule
  refine fna_d0 F sc_check_rule (fun vs H Q E h => ?_) (fun _ _ _ _ _ _ us hl => match us, hl with | [_], _ => rfl) (fun cdv A outer s H vs Q E hr h => ?_)
  · obtain ⟨s', rfl, hQ, hE⟩ := h; rfl
  obtain ⟨s', rfl, hQ, hE⟩ := h
  refine ⟨_, (pss_one (ps_if (pt_cmpR op_notIn_seq (pv 0) (pe_glob (v := .ref (He.ga K "RULES")) (by rfl) T.g_RULES rfl) (by rfl)) (pss_one (ps_rx1 rfl T.x_InvalidRule hr (by decide) tkOf (pa_cons (pv 0) pa_nil) (by rfl))) pss_nil)), ?_⟩
  refine ⟨_, rfl, _, _, rfl, .inr (T.t_RULES H), rfl, rfl, _, rfl, ?_⟩
  refine ite2 (fun h => ?_) fun h => hQ ?_
  · refine ⟨_, rfl, _, rfl, fun d hd => hE (fun g => ?_) d _ hd (Ex.new hd) upd_same⟩
    have h2 : (!inV (.str s') [.str ("row" : Str), .str ("column" : Str)]) = true := h
    rw [(rules_in s').mpr g] at h2
    cases h2
  · refine (rules_in s').mp ?_
    cases hb : inV (.str s') [.str ("row" : Str), .str ("column" : Str)] with
    | true => rfl
    | false => exact absurd (show (!inV (.str s') [.str ("row" : Str), .str ("column" : Str)]) = true by rw [hb]; rfl) h
def spShare (K : Fg) : Sp := fun vs H Q _ => ∃ (x y : Addr) (n m : Nat) (es fs : List Ent), vs = [.ref x, .ref y] ∧ VLay K H (He.ga K "Layer") x n es ∧ VLay K H (He.ga K "Layer") y m fs ∧ EntsOk n es ∧ EntsOk m fs ∧ 1 ≤ n ∧ 1 ≤ m ∧ es.length + fs.length < 64 ∧
  ∀ H', Ex H H' → Q (.bl (decide (n = m) && (linksM (turnedM es) fs).isSome)) H'
theorem ok_share_base {w : World} {K : Fg} {mg : Str → Option Value} {base : Heap} (T : Top K mg) (D_links : Df PR w K mg base 3 "links" [] (spLinks K)) (D_turned : Df PR w K mg base 2 "turned" [] (spTurned K)) (I_Layer : FnS PR w K mg base (L2.CX PR w) 1 (He.ma K (He.ga K "Layer") "__iter__") (spIter K (He.ga K "Layer") 0)) (L_Layer : FnR PR w K mg base (L2.CX PR w) 1 (He.ma K (He.ga K "Layer") "__len__") (spLen K (He.ga K "Layer") 0)) : FnA PR w K mg base 8 (He.ga K "share_base") [] ((spShare K)) := by
  obtain ⟨_, fd, F⟩ := T.f_share_base
  refine fna_d0 F sc_share_base (fun vs H Q E h => ?_) (fun _ _ _ _ _ _ us hl => match us, hl with | [_, _], _ => rfl) (fun cdv A outer s H vs Q E hr h => ?_)
  · obtain ⟨x, y, n, m, es, fs, rfl, h1, h2, ok1, ok2, hn, hm, hz, hQ⟩ := h; rfl
  obtain ⟨x, y, n, m, es, fs, rfl, h1, h2, ok1, ok2, hn, hm, hz, hQ⟩ := h
  refine ⟨_, (pss_cons (ps_if (pt_cmpR op_ne (SlX.pe_sl (pv 0)) (SlX.pe_sl (pv 1)) (nomark _)) (pss_one (ps_ret pe_bl)) pss_nil)
    (pss_cons (ps_tryA rfl rfl sc_share_base.nd tkOf (fun W pn xe tk po => (pss_one (ps_expr (pe_df D_links (hr.mono (by decide)) (by rfl) (fun σ => passAt tk σ) (pa_cons (pe_df D_turned (hr.mono (by decide)) (by rfl) passLA (pa_cons (pe_callTy (r := rListSl K (He.ga K "Layer") 0) (call_listSl rfl (iterC_of T.m_Layer_iter.1) I_Layer (lenC_of T.m_Layer_len.1) L_Layer (hr.mono (by decide))) (by rfl) T.b_list (by decide +kernel) (pa_cons (pv 0) pa_nil)) pa_nil)) (pa_cons (pe_callTy (r := rListSl K (He.ga K "Layer") 0) (call_listSl rfl (iterC_of T.m_Layer_iter.1) I_Layer (lenC_of T.m_Layer_len.1) L_Layer (hr.mono (by decide))) (by rfl) T.b_list (by decide +kernel) (pa_cons (pv 1) pa_nil)) pa_nil)))))) (HdsA.cons ⟨rfl, by decide, .inl T.g_DoesNotFollow⟩ (fun a oe cls d pn hz hf => (pss_one (ps_ret pe_bl))) HdsA.nil))
    (pss_one (ps_ret pe_bl)))), ?_⟩
  obtain ⟨dx, le, lk, us, hsl, hle, hv, _⟩ := h1
  obtain ⟨dy, me, mk, ws, hsl2, hme, hw, _⟩ := h2
  have lu := hv.len
  have lw := hw.len
  refine ⟨_, rfl, x, _, dx, _, _, 2, _, rfl, hsl, T.c_Layer, T.s_Layer_width, rfl, _, rfl, y, _, dy, _, _, 2, _, rfl, hsl2, T.c_Layer, T.s_Layer_width, rfl, rfl, _, rfl, ?_⟩
  by_cases hnm : n = m
  · subst hnm
    refine iteNS rfl ?_
    refine ⟨_, rfl, x, dx, _, le, us, rfl, hsl, rfl, hle, szK (by omega), fun p hp => ?_⟩
    have e1 := Ex.new (o := .lst us) hp
    refine ⟨p, us, es, rfl, sq_of upd_same, ves_ex (ExN.of e1) hv, by omega, fun q ts H2 hq e2 hq2 hts => ?_⟩
    refine ⟨_, rfl, y, dy, _, me, ws, rfl, ex_slt (e1.trans e2) hsl2, rfl, ex_l (e1.trans e2) hme, szK (by omega), fun r hr' => ?_⟩
    have e3 := Ex.new (o := .lst ws) hr'
    have e123 := (e1.trans e2).trans e3
    have p1 := chain_keys ok1.ord
    have p2 := chain_keys ok2.ord
    have kt : (turnedM es).map Ent.key = es.map Ent.key := turnG_keys ok1.all
    refine ⟨q, r, ts, ws, turnedM es, fs, n, rfl, sq_of (e3 _ _ hq2), sq_of upd_same, ves_ex (ExN.of e3) hts, ves_ex (ExN.of e123) hw, turnG_key ok1.all, fun e he => (ok2.all e he).key, hn, by rw [kt]; exact p1, p2, ?_, fun Ls l xs H3 hL _ e4 _ _ => ?_, fun hL H3 e4 => ?_⟩
    · rw [show (turnedM es).length = es.length from turnG_len]
      exact hz
    · have z := hQ H3 (e123.trans e4)
      rw [hL, decide_eq_true rfl] at z
      exact z
    · refine ⟨true, T.ex_DoesNotFollow_DoesNotFollow, fun _ a ha => ?_, fun z => nomatch z⟩
      have z := hQ H3 (e123.trans e4)
      rw [hL, decide_eq_true rfl] at z
      exact z
  · refine ite2 (fun _ => ?_) fun h => absurd (show (!decide (V.int (n : Int) = V.int (m : Int))) = true by rw [decide_eq_false (fun z => hnm (by injection z with z; omega))]; rfl) h
    have z := hQ H (Ex.refl _)
    rw [decide_eq_false hnm] at z
    exact z

end Kx

end

section
set_option Elab.async false
set_option linter.all false
set_option maxRecDepth 100000
set_option maxHeartbeats 4000000
namespace Kx
open PySem PySem.Spec PyProof.Rows L2 Evl Pl
/-! ### conflicts of two layers -/
def spInConf (K : Fg) : Sp := fun vs H Q _ => ∃ (u v : V) (s : Str) (e f : Ent), vs = [u, v, .str s] ∧ VE K H u e ∧ VE K H v f ∧ (ByRow s ∨ Half e ∨ Half f) ∧ ∀ H', Ex H H' → Q (.bl true) H'
theorem ds_depth : ∀ l : List (Option Rwv), PyData.depthAll (l.map orowD) ≤ 2
  | [] => by simp [PyData.depthAll]
  | a :: l => by
    have h1 := ds_depth l
    have h2 := orowD_depth a
    simp only [List.map_cons, PyData.depthAll]
    omega
theorem ds_lay : ∀ l : List (Option Rwv), PyData.canLayAll0 (l.map orowD) = true
  | [] => rfl
  | a :: l => by
    simp only [List.map_cons, PyData.canLayAll0, orowD_lay a, Bool.true_and]
    exact ds_lay l
theorem ds_shaped (l : List (Option Rwv)) : SeqAt.shaped (.list (l.map orowD)) = true := by
  have h := ds_depth l
  have h2 : PyData.depth (.list (l.map orowD)) ≤ 64 := by
    simp only [PyData.depth]
    omega
  show (PyData.canLay0 (.list (l.map orowD)) && decide (PyData.depth (.list (l.map orowD)) ≤ 64)) = true
  rw [Bool.and_eq_true]
  exact ⟨by simp only [PyData.canLay0]; exact ds_lay l, decide_eq_true h2⟩
theorem ok_in_conflict {w : World} {K : Fg} {mg : Str → Option Value} {base : Heap} (T : Top K mg)  : FnA PR w K mg base 2 (He.ga K "in_conflict") [] ((spInConf K)) := by
  obtain ⟨_, fd, F⟩ := T.f_in_conflict
  refine fna_d0 F sc_in_conflict (fun vs H Q E h => ?_) (fun _ _ _ _ _ _ us hl => match us, hl with | [_, _, _], _ => rfl) (fun cdv A outer s H vs Q E hr h => ?_)
  · obtain ⟨u, v, s', e, f, rfl, ⟨a, x, y, rfl, ha, hx, hy⟩, ⟨b, x', y', rfl, hb, hx', hy'⟩, hh, hQ⟩ := h; rfl
  obtain ⟨u, v, s', e, f, rfl, ⟨a, x, y, rfl, ha, hx, hy⟩, ⟨b, x', y', rfl, hb, hx', hy'⟩, hh, hQ⟩ := h
  refine ⟨_, (pss_cons (ps_if (PW.pt (pw_or (pt_cmpR op_eq (pv 2) pe_str (nomark _)) (pw_or1 (pt_cmpR (op_inD (hu65 hr)) pe_non (pe_lst (StX.pa_star (pe_slice sl_tup (pv 0) (po_some pe_int) po_none) (StX.pa_star (pe_slice sl_tup (pv 1) (po_some pe_int) po_none) pa_nil))) (by rfl))))) (pss_one (ps_ret pe_bl)) pss_nil)
    (pss_cons ps_never
    (pss_one ps_never))), ?_⟩
  refine ⟨_, rfl, rfl, _, rfl, ?_⟩
  refine ite2 (fun _ => iteT (hQ H (Ex.refl _))) fun h => ?_
  have hs : ¬ ByRow s' := fun z => h (decide_eq_true (by rw [show s' = ("row" : Str) from z]))
  refine ⟨_, rfl, 1, rfl, a, _, rfl, ha, (fun z => absurd (show (1 : Nat) = 0 from z.1) (by decide)), fun p hp => ?_⟩
  rw [cut3]
  have e1 := Ex.new (o := .tup [x, y]) hp
  refine ⟨p, _, rfl, .inl (st_of upd_same), ?_⟩
  refine ⟨_, rfl, 1, rfl, b, _, rfl, ex_t e1 hb, (fun z => absurd (show (1 : Nat) = 0 from z.1) (by decide)), fun q hq => ?_⟩
  rw [cut3]
  have e2 := Ex.new (o := .tup [x', y']) hq
  refine ⟨q, _, rfl, .inl (st_of upd_same), sz4, fun l hl => ?_⟩
  have e3 := Ex.new (o := .lst ([x, y] ++ ([x', y'] ++ []))) hl
  have e123 := (e1.trans e2).trans e3
  have n := ExN.of e123
  refine ⟨.none, [e.o, e.n, f.o, f.n].map orowD, .non, .lst (sq_of upd_same) (.cons (hx.ex n).dp (.cons (hy.ex n).dp (.cons (hx'.ex n).dp (.cons (hy'.ex n).dp .nil)))), rfl, ds_shaped _, _, rfl, ?_⟩
  refine ifT ?_ (hQ _ e123)
  rcases hh with h | (h | h) | (h | h)
  · exact absurd h hs
  · rw [h]
    rfl
  · rw [h]
    cases e.o <;> rfl
  · rw [h]
    cases e.o <;> cases e.n <;> rfl
  · rw [h]
    cases e.o <;> cases e.n <;> cases f.o <;> rfl
/-- how conflicts ends -/
structure ConfEnd (K : Fg) (H : Hp) (n m : Nat) (es fs : List Ent) (s : Str) (Q : V → Hp → Prop) (E : XK) : Prop where
  ir : ¬ Good s → ∀ d H', H d = none → Ex H H' → H' d = some (.xd [("rule", .str s)]) → E (.ref (He.ga K "InvalidRule")) (some d) H'
  dw : Good s → n ≠ m → ∀ d H', H d = none → Ex H H' → H' d = some (.xd [("second", .int (m : Int)), ("first", .int (n : Int))]) → E (.ref (He.ga K "DifferentWidth")) (some d) H'
  nb : Good s → n = m → linksM (turnedM es) fs = none → ∀ H', Ex H H' → E (.ref (He.ga K "NoCommonBase")) none H'
  ok : Good s → n = m → (linksM (turnedM es) fs).isSome = true → ∀ l ws H', H l = none → Ex H H' → H' l = some (.lst ws) → All2 (VP K H') ws (conflM s es fs) → Q (.ref l) H'
def spConfl (K : Fg) : Sp := fun vs H Q E => ∃ (x y : Addr) (n m : Nat) (es fs : List Ent) (s : Str), vs = [.ref x, .ref y, .str s] ∧ VLay K H (He.ga K "Layer") x n es ∧ VLay K H (He.ga K "Layer") y m fs ∧ EntsOk n es ∧ EntsOk m fs ∧ 1 ≤ n ∧ 1 ≤ m ∧ es.length + fs.length < 64 ∧
  (∀ e ∈ es, ∀ f ∈ fs, e.key = f.key → ByRow s ∨ Half e ∨ Half f) ∧ ConfEnd K H n m es fs s Q E
theorem ok_conflicts {w : World} {K : Fg} {mg : Str → Option Value} {base : Heap} (T : Top K mg) (D_check_rule : Df PR w K mg base 2 "check_rule" [] (spRule K)) (D_share_base : Df PR w K mg base 8 "share_base" [] (spShare K)) (D_entry_key : Df PR w K mg base 1 "entry_key" [] (spKey K)) (D_in_conflict : Df PR w K mg base 2 "in_conflict" [] (spInConf K)) (D_Layer_entry : MtS PR w K mg base 2 (He.ga K "Layer") "entry" (spLayEntry K)) (I_Layer : FnS PR w K mg base (L2.CX PR w) 1 (He.ma K (He.ga K "Layer") "__iter__") (spIter K (He.ga K "Layer") 0)) : FnA PR w K mg base 9 (He.ga K "conflicts") ["by"] ((spConfl K)) := by
  obtain ⟨_, fd, F⟩ := T.f_conflicts
  refine fna_d1 F sc_conflicts (fun vs H Q E h => ?_) rfl (fun _ _ _ _ _ _ us z hl => match us, hl with | [_, _], _ => rfl) (fun cdv A outer s H vs Q E hr h => ?_)
  · obtain ⟨x, y, n, m, es, fs, s', rfl, h1, h2, ok1, ok2, hn, hm, hz, hh, hE⟩ := h; rfl
  obtain ⟨x, y, n, m, es, fs, s', rfl, h1, h2, ok1, ok2, hn, hm, hz, hh, hE⟩ := h
  refine ⟨_, (pss_cons (ps_expr (pe_df D_check_rule (hr.mono (by decide)) (by rfl) (fun σ => passAt tkOf σ) (pa_cons (pv 2) pa_nil)))
    (pss_cons (ps_if (pt_cmpR op_ne (SlX.pe_sl (pv 0)) (SlX.pe_sl (pv 1)) (nomark _)) (pss_one (ps_rx2 rfl T.x_DifferentWidth hr (by decide) tkOf (pa_cons (SlX.pe_sl (pv 0)) (pa_cons (SlX.pe_sl (pv 1)) pa_nil)) (by rfl))) pss_nil)
    (pss_cons (ps_if (pt_not (pt_val (pe_df D_share_base (hr.mono (by decide)) (by rfl) passLA (pa_cons (pv 0) (pa_cons (pv 1) pa_nil))))) (pss_one (ps_raise rfl tkOf (pmk_own PySem.F.excBase_ValueError T.x_NoCommonBase.1 T.g_NoCommonBase T.x_NoCommonBase.2.1 (raises_own T.x_NoCommonBase.2.2.1 T.x_NoCommonBase.2.2.2) (by rfl)))) pss_nil)
    (pss_cons (ps_set (i := 3) sc_conflicts.nd rfl (Or.inl rfl) (pe_lst pa_nil))
    (pss_cons (ps_for poOf rfl (pi_own (pv 0) (iterC_of T.m_Layer_iter.1) I_Layer (hr.mono (by decide)) passL) (pg_name (i := 4) sc_conflicts.nd rfl (Or.inl rfl)) (pss_cons (ps_set (i := 5) sc_conflicts.nd rfl (Or.inl rfl) (pe_mtS (pv 1) D_Layer_entry (hr.mono (by decide)) passLA (pa_cons (pe_df D_entry_key (hr.mono (by decide)) (by rfl) passLA (pa_cons (pv 4) pa_nil)) pa_nil)))
    (pss_one (ps_if (PW.pt (pw_and (pt_cmpR op_notN (pv 5) pe_non (nomark _)) (pw_and1 (pt_val (pe_df D_in_conflict (hr.mono (by decide)) (by rfl) passLA (pa_cons (pv 4) (pa_cons (pv 5) (pa_cons (pv 2) pa_nil)))))))) (pss_one (ps_expr (pe_bm PySem.F.plainAttrs_list PySem.F.slot_list_append PySem.F.type_list_append mt_append (pv 3) (pa_cons (pe_tup (pa_cons (pe_ix ix_tup (pv 4) pe_int (fun _ _ => rfl)) (pa_cons (pe_df D_entry_key (hr.mono (by decide)) (by rfl) passLA (pa_cons (pv 4) pa_nil)) pa_nil))) pa_nil)))) pss_nil))))
    (pss_one (ps_ret (pv 3)))))))), ?_⟩
  obtain ⟨dx, le, lk, us, hsl, hle, hv, _⟩ := id h1
  obtain ⟨dy, me, mk, ws, hsl2, hme, hw, _⟩ := id h2
  have lu := hv.len
  refine ⟨_, rfl, s', rfl, fun hg => ?_, fun hg d H' hd e hd' => hE.ir hg d H' hd e hd'⟩
  refine ⟨_, rfl, x, _, dx, _, _, 2, _, rfl, hsl, T.c_Layer, T.s_Layer_width, rfl, _, rfl, y, _, dy, _, _, 2, _, rfl, hsl2, T.c_Layer, T.s_Layer_width, rfl, rfl, _, rfl, ?_⟩
  by_cases hnm : n = m
  rotate_left
  · refine ifT (by show (!decide (V.int (n : Int) = V.int (m : Int))) = true; rw [decide_eq_false (fun z => hnm (by injection z with z; omega))]; rfl) ?_
    refine ⟨_, rfl, x, _, dx, _, _, 2, _, rfl, hsl, T.c_Layer, T.s_Layer_width, rfl, _, rfl, y, _, dy, _, _, 2, _, rfl, hsl2, T.c_Layer, T.s_Layer_width, rfl, _, _, rfl, fun d hd => ?_⟩
    exact hE.dw hg hnm d _ hd (Ex.new hd) upd_same
  subst hnm
  refine iteNS rfl ?_
  refine ⟨_, rfl, _, rfl, x, y, n, n, es, fs, rfl, h1, h2, ok1, ok2, hn, hm, hz, fun H1 e1 => ⟨_, rfl, ?_⟩⟩
  rw [decide_eq_true rfl, Bool.true_and]
  cases hL : linksM (turnedM es) fs with
  | none => exact ifT rfl (hE.nb hg rfl hL H1 e1)
  | some Ls =>
    refine ifF rfl ⟨Nat.zero_le _, fun D hD => ?_⟩
    have hDH := fresh_back e1 hD
    have e2 : Ex H (upd H1 D (.lst [])) := e1.trans (Ex.new hD)
    have p1 := chain_keys ok1.ord
    have p2 := chain_keys ok2.ord
    refine ⟨_, rfl, x, dx, _, le, us, rfl, ex_slt e2 hsl, rfl, ex_l e2 hle, ?_⟩
    refine for_list (K := K) (a := le) (xs := us) (fun i σ H' => Ex H H' ∧ ∃ vs m1 m2, H' D = some (.lst vs) ∧ All2 (VP K H') vs (conflM s' (es.take i) fs) ∧ σ = [some (.ref x), some (.ref y), some (.str s'), some (.ref D), m1, m2])
      ⟨e2, [], _, _, upd_same, .nil, rfl⟩ (fun i σ H' _ p => ex_l p.1 hle) ?_ ?_
    · rintro i z σ H' hz' ⟨e, vs, m1, m2, hD', hvs, rfl⟩
      obtain ⟨en, he, hve⟩ := hv.get hz'
      have hen := List.mem_of_getElem? he
      have hve' := hve.ex (ExN.of e)
      obtain ⟨c, x1, y1, rfl, hc, hx1, hy1⟩ := id hve'
      refine ⟨_, rfl, y, dy, _, rfl, ex_slt e hsl2, _, rfl, _, en, n, rfl, hve', (ok1.all en hen).key, hn, ?_⟩
      refine ⟨y, en.key, n, fs, rfl, h2.mono e, p2, fun v hvv => ?_⟩
      have hlt : vs.length < sizeLine := by
        have h3 := hvs.len
        have h4 := confl_len s' (es.take i) fs
        rw [List.length_take] at h4
        exact szK (by omega)
      refine ⟨_, rfl, rfl, _, rfl, ?_⟩
      have fin : ∀ H2, Ex H' H2 → confP s' fs en = false → Ex H H2 ∧ ∃ vs m1 m2, H2 D = some (.lst vs) ∧ All2 (VP K H2) vs (conflM s' (es.take (i + 1)) fs) ∧ [some (.ref x), some (.ref y), some (.str s'), some (.ref D), some (.ref c), some v] = [some (.ref x), some (.ref y), some (.str s'), some (.ref D), m1, m2] := fun H2 e3 hc => by
        refine ⟨e.trans e3, vs, _, _, e3 _ _ hD', ?_, rfl⟩
        rw [confl_snoc he, if_neg (by rw [hc]; decide), List.append_nil]
        exact hvs.imp fun _ _ z => z.ex (ExN.of e3)
      rw [hvv.isN]
      cases hf : findE fs en.key with
      | none => exact ifF rfl (iteF (fin H' (Ex.refl _) (by unfold confP; rw [hf])))
      | some f =>
        rw [hf] at hvv
        have hfm : f ∈ fs ∧ f.key = en.key := by
          have h3 := List.mem_of_find?_eq_some hf
          have h4 := List.find?_some hf
          exact ⟨h3, of_decide_eq_true h4⟩
        have hhh := hh en hen f hfm.1 hfm.2.symm
        refine ifT rfl ⟨_, rfl, _, rfl, _, rfl, _, v, s', en, f, rfl, hve', hvv, hhh, fun H2 e3 => ⟨true, rfl, ?_⟩⟩
        refine iteT ⟨_, rfl, .inl ⟨rfl, _, sq_of (e3 _ _ hD')⟩, ?_⟩
        refine ⟨_, rfl, _, _, _, _, rfl, rfl, ex_t e3 hc, atI0 rfl, _, rfl, _, en, n, rfl, hve'.ex (ExN.of e3), (ok1.all en hen).key, hn, sz2, fun t ht => ?_⟩
        have hD2 := e3 _ _ hD'
        have hDt : D ≠ t := ne_of_none hD2 ht
        have hD3 : upd H2 t (.tup [.int en.p, .int en.key]) D = some (.lst vs) := by rw [upd_ne hDt]; exact hD2
        refine ⟨D, vs, _, rfl, rfl, hD3, hlt, ?_⟩
        have eN := (ExN.of (e3.trans (Ex.new ht))).trans (ExN.list (ys := vs ++ [.ref t]) hD3)
        refine ⟨Ex.mut ((e.trans e3).trans (Ex.new ht)) hDH, _, _, _, upd_same, ?_, rfl⟩
        rw [confl_snoc he, if_pos (by unfold confP; rw [hf]; exact inConf_half hhh)]
        refine (hvs.imp fun _ _ z => z.ex eN).app (.cons ⟨t, rfl, st_of ?_⟩ .nil)
        rw [upd_ne (Ne.symm hDt), upd_same]
    · rintro σ H' ⟨e, vs, m1, m2, hD', hvs, rfl⟩
      rw [lu, List.take_length] at hvs
      exact ⟨_, rfl, hE.ok hg rfl (by rw [hL]; rfl) D vs H' hDH e hD' hvs⟩

end Kx

end

section
set_option Elab.async false
set_option linter.all false
set_option maxRecDepth 100000
set_option maxHeartbeats 4000000
namespace Kx
open PySem PySem.Spec PyProof.Rows L2 Evl Pl
/-! ### moved, merged, replay: where they raise -/
structure MovEnd (K : Fg) (H : Hp) (n m : Nat) (es fs : List Ent) (s : Str) (E : XK) : Prop where
  ir : ¬ Good s → ∀ d H', H d = none → Ex H H' → H' d = some (.xd [("rule", .str s)]) → E (.ref (He.ga K "InvalidRule")) (some d) H'
  dw : Good s → n ≠ m → ∀ d H', H d = none → Ex H H' → E (.ref (He.ga K "DifferentWidth")) (some d) H'
  nb : Good s → n = m → linksM (turnedM es) fs = none → ∀ H', Ex H H' → E (.ref (He.ga K "NoCommonBase")) none H'
  cf : Good s → n = m → (linksM (turnedM es) fs).isSome = true → ∀ d H', H d = none → Ex H H' → E (.ref (He.ga K "Conflict")) (some d) H'
def spMoved (K : Fg) : Sp := fun vs H Q E => ∃ (x y : Addr) (n m : Nat) (es fs : List Ent) (s : Str), vs = [.ref x, .ref y, .str s] ∧ VLay K H (He.ga K "Layer") x n es ∧ VLay K H (He.ga K "Layer") y m fs ∧ EntsOk n es ∧ EntsOk m fs ∧ 1 ≤ n ∧ 1 ≤ m ∧ es.length + fs.length < 64 ∧
  (∀ e ∈ es, ∀ f ∈ fs, e.key = f.key → ByRow s ∨ Half e ∨ Half f) ∧ (Good s → n = m → (linksM (turnedM es) fs).isSome = true → conflM s es fs ≠ []) ∧ MovEnd K H n m es fs s E
theorem ok_moved {w : World} {K : Fg} {mg : Str → Option Value} {base : Heap} (T : Top K mg) (D_conflicts : Df PR w K mg base 9 "conflicts" ["by"] (spConfl K)) : FnA PR w K mg base 10 (He.ga K "moved") ["by"] ((spMoved K)) := by
  obtain ⟨_, fd, F⟩ := T.f_moved
  refine fna_d1 F sc_moved (fun vs H Q E h => ?_) rfl (fun _ _ _ _ _ _ us z hl => match us, hl with | [_, _], _ => rfl) (fun cdv A outer s H vs Q E hr h => ?_)
  · obtain ⟨x, y, n, m, es, fs, s', rfl, h1, h2, ok1, ok2, hn, hm, hz, hh, hne, hE⟩ := h; rfl
  obtain ⟨x, y, n, m, es, fs, s', rfl, h1, h2, ok1, ok2, hn, hm, hz, hh, hne, hE⟩ := h
  refine ⟨_, (pss_cons (ps_set (i := 3) sc_moved.nd rfl (Or.inl rfl) (pe_dfK D_conflicts (hr.mono (by decide)) (by rfl) (fun σ => passAt tkOf σ) (pa_cons (pv 0) (pa_cons (pv 1) pa_nil)) (pk_cons (pv 2) pk_nil)))
    (pss_cons (ps_if (pt_truth (pv 3) (by intro _; rfl)) (pss_one (ps_rx1 rfl T.x_Conflict hr (by decide) tkOf (pa_cons (pe_callTy call_tuple_of (by rfl) T.b_tuple (by decide +kernel) (pa_cons (pv 3) pa_nil)) pa_nil) (by rfl))) pss_nil)
    (pss_one ps_never))), ?_⟩
  refine ⟨_, rfl, _, rfl, _, rfl, rfl, x, y, n, m, es, fs, s', rfl, h1, h2, ok1, ok2, hn, hm, hz, hh, hE.ir, fun g hnm d H' hd e _ => hE.dw g hnm d H' hd e, hE.nb, fun g hnm hL l ws H1 hl e1 hl' hvs => ?_⟩
  refine ⟨_, rfl, _, .inl ⟨ws, sq_of hl', rfl⟩, ?_⟩
  have hw : ws ≠ [] := fun z => hne g hnm hL (by have := hvs.len; rw [z] at this; exact List.length_eq_zero_iff.mp this.symm)
  refine ifT (by cases ws with | nil => exact absurd rfl hw | cons a b => rfl) ?_
  refine ⟨_, rfl, l, ws, rfl, .inl ⟨sq_of hl', fun t ht => ⟨_, rfl, fun d hd => ?_⟩⟩⟩
  have e2 := e1.trans (Ex.new (o := .tup ws) ht)
  exact hE.cf g hnm hL d _ (fresh_back e2 hd) (e2.trans (Ex.new hd))
def spMergedI (K : Fg) : Sp := fun vs H Q E => ∃ (x p : Addr) (rest : List V) (s : Str), vs = [.ref x, .str s, .ref p] ∧ SqT K H p rest ∧
  (¬ Good s → ∀ d H', H d = none → Ex H H' → H' d = some (.xd [("rule", .str s)]) → E (.ref (He.ga K "InvalidRule")) (some d) H') ∧
  (Good s → (rest = [] ∧ Q (.ref x) H) ∨ ∃ y, rest = [.ref y] ∧ spMoved K [.ref y, .ref x, .str s] H Q E)
theorem moved_any {K : Fg} {vs : List V} {H : Hp} {Q Q' : VK} {E : XK} (h : spMoved K vs H Q E) : spMoved K vs H Q' E := h
theorem walk_merged {w : World} {K : Fg} {mg : Str → Option Value} {base : Heap} (T : Top K mg) (D_check_rule : Df PR w K mg base 2 "check_rule" [] (spRule K)) (D_moved : Df PR w K mg base 10 "moved" ["by"] (spMoved K)) : Walked PR w K mg base 11 ["first", "by", "rest", "result", "layer"] "merged" s_merged (He.ga K "merged") ((spMergedI K)) := by
  intro cdv A outer s H vs Q E hr h
  obtain ⟨x, p, rest, s', rfl, hp, hir, hg⟩ := h
  refine ⟨_, (pss_cons (ps_expr (pe_df D_check_rule (hr.mono (by decide)) (by rfl) (fun σ => passAt tkOf σ) (pa_cons (pv 1) pa_nil)))
    (pss_cons (ps_set (i := 3) sc_merged.nd rfl (Or.inl rfl) (pv 0))
    (pss_cons (ps_for poOf rfl (pi_tup (pv 2)) (pg_name (i := 4) sc_merged.nd rfl (Or.inl rfl)) (pss_one (ps_set (i := 3) sc_merged.nd rfl (Or.inl rfl) (pe_op op_add (pv 3) (pe_dfK D_moved (hr.mono (by decide)) (by rfl) (fun σ => passAt tkOf σ) (pa_cons (pv 4) (pa_cons (pv 3) pa_nil)) (pk_cons (pv 1) pk_nil))))))
    (pss_one (ps_ret (pv 3)))))), ?_⟩
  refine ⟨_, rfl, s', rfl, fun g => ?_, hir⟩
  refine ⟨_, rfl, ?_⟩
  refine ⟨_, rfl, p, rfl, ⟨_, hp⟩, ?_⟩
  rcases hg g with ⟨rfl, hQ⟩ | ⟨y, rfl, hm⟩
  · refine for_tup (K := K) (a := p) (xs := []) (fun i σ H' => H' = H ∧ ∃ m1, σ = [some (.ref x), some (.str s'), some (.ref p), some (.ref x), m1]) ⟨rfl, _, rfl⟩ (fun i σ H' _ q => by rw [q.1]; exact hp) (fun i z σ H' hz _ => by simp at hz) ?_
    rintro σ H' ⟨rfl, m1, rfl⟩
    exact ⟨_, rfl, hQ⟩
  · refine for_tup (K := K) (a := p) (xs := [.ref y]) (fun i σ H' => i = 0 ∧ H' = H ∧ ∃ m1, σ = [some (.ref x), some (.str s'), some (.ref p), some (.ref x), m1]) ⟨rfl, rfl, _, rfl⟩ (fun i σ H' _ q => by rw [q.2.1]; exact hp) ?_ ?_
    · rintro i z σ H' hz ⟨rfl, rfl, m1, rfl⟩
      have ez : V.ref y = z := Option.some.inj hz
      subst ez
      exact ⟨_, rfl, _, rfl, _, rfl, _, rfl, rfl, moved_any hm⟩
    · rintro σ H' ⟨h0, _⟩
      cases h0
theorem ok_merged {w : World} {K : Fg} {mg : Str → Option Value} {base : Heap} (T : Top K mg) (D_check_rule : Df PR w K mg base 2 "check_rule" [] (spRule K)) (D_moved : Df PR w K mg base 10 "moved" ["by"] (spMoved K)) :
    FnA PR w K mg base 12 (He.ga K "merged") ["by"] (fun vs H Q E => ∃ a rest z, vs = a :: rest ++ [z] ∧ rest.length ≤ 1 ∧ ∀ p, H p = none → spMergedI K [a, z, .ref p] (upd H p (.tup rest)) Q E) := by
  obtain ⟨_, fd, F⟩ := T.f_merged
  exact fna_star1 (nmax := 1) F sc_merged (fun _ _ _ _ _ _ a rest z hl => match rest, hl with | [], _ => rfl | [_], _ => rfl | _ :: _ :: _, hl => absurd hl (by simp)) sz1 (walk_merged T D_check_rule D_moved)
def spDone (K : Fg) : Sp := fun vs H Q _ => ∃ (v : V) (s : Str) (e : Ent), vs = [.non, v, .str s] ∧ VE K H v e ∧ e.o ≠ none ∧ Q (.bl false) H
theorem ok_can_be_done {w : World} {K : Fg} {mg : Str → Option Value} {base : Heap} (T : Top K mg)  : FnA PR w K mg base 1 (He.ga K "can_be_done") [] ((spDone K)) := by
  obtain ⟨_, fd, F⟩ := T.f_can_be_done
  refine fna_d0 F sc_can_be_done (fun vs H Q E h => ?_) (fun _ _ _ _ _ _ us hl => match us, hl with | [_, _, _], _ => rfl) (fun cdv A outer s H vs Q E hr h => ?_)
  · obtain ⟨v, s', e, rfl, ⟨a, x, y, rfl, ha, hx, hy⟩, ho, hQ⟩ := h; rfl
  obtain ⟨v, s', e, rfl, ⟨a, x, y, rfl, ha, hx, hy⟩, ho, hQ⟩ := h
  refine ⟨_, (pss_cons (ps_asg (pv 1) (pg_tup (by rfl) (pgs_cons (pg_name (i := 3) sc_can_be_done.nd rfl (Or.inl rfl)) (pgs_cons (pg_name (i := 4) sc_can_be_done.nd rfl (Or.inr rfl)) (pgs_cons (pg_name (i := 5) sc_can_be_done.nd rfl (Or.inl rfl)) pgs_nil)))))
    (pss_cons (ps_if (PW.pt (pw_or (pt_cmpR op_eq (pv 2) pe_str (nomark _)) (pw_or (pt_cmpR op_isN (pv 0) pe_non (nomark _)) (pw_or (pt_cmpR op_isN (pv 4) pe_non (nomark _)) (pw_or1 (pt_cmpR op_isN (pv 5) pe_non (nomark _))))))) (pss_one (ps_ret (pe_cmpR (op_eqD hr.units) (pv 0) (pv 4) (nomark _)))) pss_nil)
    (pss_one ps_never))), ?_⟩
  refine ⟨_, rfl, a, _, rfl, ha, rfl, _, _, rfl, _, _, rfl, _, _, rfl, rfl, ?_⟩
  refine ⟨_, rfl, rfl, _, rfl, ?_⟩
  have fin : rEqD K V.non x H Q := rEq_rows (a := none) (b := e.o) (show V.non = V.non from rfl) hx (by rw [decide_eq_false (fun z => ho z.symm)]; exact hQ)
  refine ite2 (fun _ => iteT ⟨_, rfl, _, rfl, fin⟩) fun _ => ⟨_, rfl, rfl, _, rfl, iteT (iteT ⟨_, rfl, _, rfl, fin⟩)⟩
def spReplay (K : Fg) : Sp := fun vs H Q E => ∃ (x y : Addr) (n m : Nat) (rs : List Rwv) (es : List Ent) (s : Str), vs = [.ref x, .ref y, .str s] ∧ VTab K H (He.ga K "Table") x n rs ∧ VLay K H (He.ga K "Layer") y m es ∧ RowsOk n rs ∧ EntsOk m es ∧ 1 ≤ n ∧ 1 ≤ m ∧ rs.length ≤ 1000 ∧ es.length ≤ 1000 ∧
  (Good s → n = m → rs = [] ∧ es ≠ [] ∧ ∀ e ∈ es, e.o ≠ none) ∧
  (¬ Good s → ∀ d H', H d = none → Ex H H' → H' d = some (.xd [("rule", .str s)]) → E (.ref (He.ga K "InvalidRule")) (some d) H') ∧ (Good s → n ≠ m → ∀ d H', H d = none → Ex H H' → E (.ref (He.ga K "DifferentWidth")) (some d) H') ∧
  (Good s → n = m → ∀ d H', H d = none → Ex H H' → E (.ref (He.ga K "Conflict")) (some d) H')
theorem ok_replay {w : World} {K : Fg} {mg : Str → Option Value} {base : Heap} (T : Top K mg) (D_check_rule : Df PR w K mg base 2 "check_rule" [] (spRule K)) (D_entry_key : Df PR w K mg base 1 "entry_key" [] (spKey K)) (D_can_be_done : Df PR w K mg base 1 "can_be_done" [] (spDone K)) (D_Table_find : MtS PR w K mg base 3 (He.ga K "Table") "find" (spFind K)) (I_Layer : FnS PR w K mg base (L2.CX PR w) 1 (He.ma K (He.ga K "Layer") "__iter__") (spIter K (He.ga K "Layer") 0)) (I_Table : FnS PR w K mg base (L2.CX PR w) 1 (He.ma K (He.ga K "Table") "__iter__") (spIter K (He.ga K "Table") 1)) : FnA PR w K mg base 10 (He.ga K "replay") ["by"] ((spReplay K)) := by
  obtain ⟨_, fd, F⟩ := T.f_replay
  refine fna_d1 F sc_replay (fun vs H Q E h => ?_) rfl (fun _ _ _ _ _ _ us z hl => match us, hl with | [_, _], _ => rfl) (fun cdv A outer s H vs Q E hr h => ?_)
  · obtain ⟨x, y, n, m, rs, es, s', rfl, h1, h2, ok1, ok2, hn, hm, hz1, hz2, hre, hir, hdw, hcf⟩ := h; rfl
  obtain ⟨x, y, n, m, rs, es, s', rfl, h1, h2, ok1, ok2, hn, hm, hz1, hz2, hre, hir, hdw, hcf⟩ := h
  refine ⟨_, (pss_cons (ps_expr (pe_df D_check_rule (hr.mono (by decide)) (by rfl) (fun σ => passAt tkOf σ) (pa_cons (pv 2) pa_nil)))
    (pss_cons (ps_if (pt_cmpR op_ne (SlX.pe_sl (pv 0)) (SlX.pe_sl (pv 1)) (nomark _)) (pss_one (ps_rx2 rfl T.x_DifferentWidth hr (by decide) tkOf (pa_cons (SlX.pe_sl (pv 0)) (pa_cons (SlX.pe_sl (pv 1)) pa_nil)) (by rfl))) pss_nil)
    (pss_cons (ps_set (i := 4) sc_replay.nd rfl (Or.inr rfl) (pe_dc (own := [("row", 3)]) (g := gName 3) (tt := tYes) rfl sc_replay.nd (pi_own (pv 0) (iterC_of T.m_Table_iter.1) I_Table (hr.mono (by decide)) passL) (blkOk_by (own := [("row", 3)]) (N := ["table", "layer", "by", "row", "rows", "refused", "entry", "key"]) (sc := defScope s_replay) (by decide +kernel)) (fun _ _ _ _ _ => (pg_name (i := 3) sc_replay.nd rfl (Or.inl rfl))) (fun _ _ _ _ _ => pts_nil) (fun _ _ _ _ _ => (pe_ix (r := rIxT K) ix_tup (pv 3) pe_int (fun _ _ => rfl))) (fun _ _ _ _ _ => (pv 3))))
    (pss_cons (ps_set (i := 5) sc_replay.nd rfl (Or.inl rfl) (pe_lst pa_nil))
    (pss_cons (ps_for poOf rfl (pi_own (pv 1) (iterC_of T.m_Layer_iter.1) I_Layer (hr.mono (by decide)) passL) (pg_name (i := 6) sc_replay.nd rfl (Or.inl rfl)) (pss_cons (ps_set (i := 7) sc_replay.nd rfl (Or.inl rfl) (pe_df D_entry_key (hr.mono (by decide)) (by rfl) passLA (pa_cons (pv 6) pa_nil)))
    (pss_cons (ps_set (i := 3) sc_replay.nd rfl (Or.inl rfl) (pe_mtS (pv 0) D_Table_find (hr.mono (by decide)) passLA (pa_cons (pv 7) pa_nil)))
    (pss_one (ps_if (pt_val (pe_df D_can_be_done (hr.mono (by decide)) (by rfl) passLA (pa_cons (pv 3) (pa_cons (pv 6) (pa_cons (pv 2) pa_nil))))) (pss_one ps_never) (pss_one (ps_expr (pe_bm PySem.F.plainAttrs_list PySem.F.slot_list_append PySem.F.type_list_append mt_append (pv 5) (pa_cons (pe_tup (pa_cons (pe_ix ix_tup (pv 6) pe_int (fun _ _ => rfl)) (pa_cons (pv 7) pa_nil))) pa_nil)))))))))
    (pss_cons (ps_if (pt_truth (pv 5) (by intro _; rfl)) (pss_one (ps_rx1 rfl T.x_Conflict hr (by decide) tkOf (pa_cons (pe_callTy call_tuple_of (by rfl) T.b_tuple (by decide +kernel) (pa_cons (pv 5) pa_nil)) pa_nil) (by rfl))) pss_nil)
    (pss_one ps_never))))))), ?_⟩
  obtain ⟨dx, lk, lr, us, hsl, hlr, hv, _⟩ := id h1
  obtain ⟨dy, me, mk, ws, hsl2, hme, hw, _⟩ := id h2
  have lu := hv.len
  have lw := hw.len
  refine ⟨_, rfl, s', rfl, fun hg => ?_, hir⟩
  refine ⟨_, rfl, x, _, dx, _, _, 2, _, rfl, hsl, T.c_Table, T.s_Table_width, rfl, _, rfl, y, _, dy, _, _, 2, _, rfl, hsl2, T.c_Layer, T.s_Layer_width, rfl, rfl, _, rfl, ?_⟩
  by_cases hnm : n = m
  rotate_left
  · refine ifT (by show (!decide (V.int (n : Int) = V.int (m : Int))) = true; rw [decide_eq_false (fun z => hnm (by injection z with z; omega))]; rfl) ?_
    refine ⟨_, rfl, x, _, dx, _, _, 2, _, rfl, hsl, T.c_Table, T.s_Table_width, rfl, _, rfl, y, _, dy, _, _, 2, _, rfl, hsl2, T.c_Layer, T.s_Layer_width, rfl, _, _, rfl, fun d hd => ?_⟩
    exact hdw hg hnm d _ hd (Ex.new hd)
  subst hnm
  obtain ⟨rfl, hne, hho⟩ := hre hg rfl
  have hus : us = [] := List.length_eq_zero_iff.mp lu
  subst hus
  refine iteNS rfl ?_
  refine ⟨_, rfl, x, dx, _, lr, [], rfl, hsl, rfl, hlr, fun D hD => ?_⟩
  refine dc_keys (ks := []) hlr (szK (Nat.zero_le _)) hD rfl .nil (fun _ => rfl) (fun i z k H2 Q' hx _ _ _ => by simp at hx) (fun i z H2 Q' hx _ _ => by simp at hx) fun H1 e1 hD1 => ?_
  refine ⟨Nat.zero_le _, fun R hR => ?_⟩
  have hRH := fresh_back e1 hR
  have e2 : Ex H (upd H1 R (.lst [])) := e1.trans (Ex.new hR)
  refine ⟨_, rfl, y, dy, _, me, ws, rfl, ex_slt e2 hsl2, rfl, ex_l e2 hme, ?_⟩
  refine for_list (K := K) (a := me) (xs := ws) (fun i σ H' => Ex H H' ∧ ∃ vs m1 m2 m3, H' R = some (.lst vs) ∧ vs.length = i ∧ σ = [some (.ref x), some (.ref y), some (.str s'), m1, some (.ref D), some (.ref R), m2, m3])
      ⟨e2, [], _, _, _, upd_same, rfl, rfl⟩ (fun i σ H' _ p => ex_l p.1 hme) ?_ ?_
  · rintro i z σ H' hz' ⟨e, vs, m1, m2, m3, hD', hl, rfl⟩
    obtain ⟨en, he, hve⟩ := hw.get hz'
    have hen := List.mem_of_getElem? he
    have hlt := (List.getElem?_eq_some_iff.mp hz').1
    have hve' := hve.ex (ExN.of e)
    obtain ⟨c, x1, y1, rfl, hc, hx1, hy1⟩ := id hve'
    refine ⟨_, rfl, _, en, n, rfl, hve', (ok2.all en hen).key, hn, ?_⟩
    refine ⟨_, rfl, x, dx, _, rfl, ex_slt e hsl, _, rfl, x, en.key, n, [], rfl, h1.mono e, .nil, fun v hvv => ?_⟩
    have ev : v = .non := hvv
    subst ev
    refine ⟨_, rfl, _, rfl, _, rfl, _, s', en, rfl, hve', hho en hen, false, rfl, ?_⟩
    refine iteF ⟨_, rfl, .inl ⟨rfl, _, sq_of hD'⟩, _, rfl, _, _, _, _, rfl, rfl, hc, atI0 rfl, _, rfl, sz2, fun t ht => ?_⟩
    have hRt : R ≠ t := ne_of_none hD' ht
    have hD3 : upd H' t (.tup [.int en.p, .int en.key]) R = some (.lst vs) := by rw [upd_ne hRt]; exact hD'
    refine ⟨R, vs, _, rfl, rfl, hD3, szK (by omega), ?_⟩
    exact ⟨Ex.mut (e.trans (Ex.new ht)) hRH, _, _, _, _, upd_same, by rw [List.length_append, hl]; rfl, rfl⟩
  · rintro σ H' ⟨e, vs, m1, m2, m3, hD', hl, rfl⟩
    refine ⟨_, rfl, _, .inl ⟨vs, sq_of hD', rfl⟩, ?_⟩
    have hlen : es.length ≠ 0 := fun z => hne (List.length_eq_zero_iff.mp z)
    refine ifT (by cases vs with | nil => (exfalso; simp at hl; omega) | cons a b => rfl) ?_
    refine ⟨_, rfl, R, vs, rfl, .inl ⟨sq_of hD', fun t ht => ⟨_, rfl, fun d hd => ?_⟩⟩⟩
    have e2 := e.trans (Ex.new (o := .tup vs) ht)
    exact hcf hg rfl d _ (fresh_back e2 hd) (e2.trans (Ex.new hd))

end Kx

end

section
set_option Elab.async false
set_option linter.all false
set_option maxRecDepth 100000
set_option maxHeartbeats 4000000
namespace Kx
open PySem PySem.Spec PyProof.Rows L2 Evl Pl
/-! ### stacks, histories, stores, desks -/
/-- all but one address stays -/
def ExX (x : Addr) (H H' : Hp) : Prop := ∀ b o, b ≠ x → H b = some o → H' b = some o
theorem ExX.ex {x : Addr} {H H1 H2 : Hp} (a : ExX x H H1) (e : Ex H1 H2) : ExX x H H2 := fun b o n h => e b o (a b o n h)
theorem ExX.set {x : Addr} {H H1 : Hp} {o : HO} (a : ExX x H H1) : ExX x H (upd H1 x o) := fun b u n h => by
  rw [upd_ne n]
  exact a b u n h
theorem ExX.refl {x : Addr} {H : Hp} : ExX x H H := fun _ _ _ h => h
theorem ExX.new {H H' : Hp} {x dx C : Addr} (h1 : H x = none) (h2 : H dx = none) (e : ExX x (upd (upd H dx (.own x)) x (.ins C dx [])) H') : Ex H H' := fun b o hb => by
  have n1 := ne_of_none hb h1
  have n2 := ne_of_none hb h2
  exact e b o n1 (by rw [upd_ne n1, upd_ne n2]; exact hb)
theorem ExX.exN {H H' : Hp} {x C dx : Addr} {fs : List (Str × V)} (h : H x = some (.ins C dx fs)) (e : ExX x H H') : ExN H H' := fun b o hb n => e b o (fun z => by
  rw [z, h] at hb
  rw [← Option.some.inj hb] at n
  rcases n with ⟨_, h⟩ | ⟨_, _, h⟩ <;> cases h) hb
/-- a table at x, whatever it holds: its width is read -/
def spStackInit (K : Fg) : Sp := fun vs H Q _ => ∃ (x dx t p n : Addr) (rs : List Rwv), vs = [.ref x, .ref t, .ref p] ∧ Fresh H x (He.ga K "Stack") dx ∧ VTab K H (He.ga K "Table") t n rs ∧ SqT K H p [] ∧ ∀ H', ExI x dx H H' → Q .non H'
theorem walk_Stack_init {w : World} {K : Fg} {mg : Str → Option Value} {base : Heap} (T : Top K mg)  : Walked PR w K mg base 3 ["self", "base", "layers", "top", "layer"] "Stack.__init__" s_Stack_init (initAt K "Stack") ((spStackInit K)) := by
  intro cdv A outer s H vs Q E hr h
  obtain ⟨x, dx, t, p, n, rs, rfl, fr, ht, hp, hQ⟩ := h
  refine ⟨_, (pss_cons (ps_set (i := 3) sc_Stack_init.nd rfl (Or.inl rfl) (pv 1))
    (pss_cons (ps_for poOf rfl (pi_tup (pv 2)) (pg_name (i := 4) sc_Stack_init.nd rfl (Or.inl rfl)) (pss_one (ps_set (i := 3) sc_Stack_init.nd rfl (Or.inl rfl) (pe_op op_add (pv 3) (pv 4)))))
    (pss_cons (SlX.ps_sl (pv 0) (pv 1))
    (pss_cons (SlX.ps_sl (pv 0) (SlX.pe_sl (pv 1)))
    (pss_one (SlX.ps_sl (pv 0) (pe_callTy call_list_of (by rfl) T.b_list (by decide +kernel) (pa_cons (pv 2) pa_nil)))))))), ?_⟩
  obtain ⟨dt, lk, lr, us, hsl, _, _, _⟩ := ht
  refine ⟨_, rfl, ?_⟩
  refine ⟨_, rfl, p, rfl, ⟨_, hp⟩, ?_⟩
  refine for_tup (K := K) (a := p) (xs := []) (fun i σ H' => H' = H ∧ ∃ m1, σ = [some (.ref x), some (.ref t), some (.ref p), some (.ref t), m1]) ⟨rfl, _, rfl⟩ (fun i σ H' _ q => by rw [q.1]; exact hp) (fun i z σ H' hz _ => by simp at hz) ?_
  rintro σ H' ⟨rfl, m1, rfl⟩
  have hne : t ≠ x ∧ t ≠ dx := by
    constructor
    · intro z
      rcases hsl with ⟨h, hh⟩ | ⟨h, _⟩
      · cases hh
      · rw [z, fr.ins] at h
        injection h with h
        unfold SlX.SlO at h
        cases h
    · intro z
      rcases hsl with ⟨h, hh⟩ | ⟨h, _⟩
      · cases hh
      · rw [z, fr.own] at h
        injection h with h
        unfold SlX.SlO at h
        cases h
  have hdt : dt ≠ x ∧ dt ≠ dx := by
    constructor
    · intro z
      rcases hsl with ⟨h, hh⟩ | ⟨_, h⟩
      · cases hh
      · rw [z, fr.ins] at h
        cases h
    · intro z
      rcases hsl with ⟨h, hh⟩ | ⟨_, h⟩
      · cases hh
      · rw [z, fr.own] at h
        cases h
  refine ⟨_, rfl, _, rfl, x, _, dx, _, [], 1, rfl, .inl ⟨fr.ins, rfl⟩, T.c_Stack, T.s_Stack_base, ?_⟩
  have s1 : SlX.Slt (SlX.slH H' x (He.ga K "Stack") dx (SlX.putS 1 (V.ref t) [])) x (He.ga K "Stack") dx (SlX.putS 1 (V.ref t) []) := SlX.slH_slt fr.ne
  have e1 : ExI x dx H' (SlX.slH H' x (He.ga K "Stack") dx (SlX.putS 1 (V.ref t) [])) := ExI.refl.sl
  have hsl1 : SlX.Slt (SlX.slH H' x (He.ga K "Stack") dx (SlX.putS 1 (V.ref t) [])) t (He.ga K "Table") dt [some (.ref lk), some (.ref lr), some (.int (n : Int))] := by
    rcases hsl with ⟨h, hh⟩ | ⟨h, h'⟩
    · cases hh
    · exact .inr ⟨by rw [SlX.slH_ne hne.1 hne.2]; exact h, by rw [SlX.slH_ne hdt.1 hdt.2]; exact h'⟩
  have hp1 : SqT K (SlX.slH H' x (He.ga K "Stack") dx (SlX.putS 1 (V.ref t) [])) p [] := fr.t e1 hp
  generalize SlX.slH H' x (He.ga K "Stack") dx (SlX.putS 1 (V.ref t) []) = H1 at s1 e1 hsl1 hp1 ⊢
  refine ⟨_, rfl, t, _, dt, _, _, 2, _, rfl, hsl1, T.c_Table, T.s_Table_width, rfl, _, rfl, x, _, dx, _, _, 2, rfl, s1, T.c_Stack, T.s_Stack_width, ?_⟩
  have s2 : SlX.Slt (SlX.slH H1 x (He.ga K "Stack") dx (SlX.putS 2 (V.int (n : Int)) (SlX.putS 1 (V.ref t) []))) x (He.ga K "Stack") dx (SlX.putS 2 (V.int (n : Int)) (SlX.putS 1 (V.ref t) [])) := SlX.slH_slt fr.ne
  have e2 : ExI x dx H' (SlX.slH H1 x (He.ga K "Stack") dx (SlX.putS 2 (V.int (n : Int)) (SlX.putS 1 (V.ref t) []))) := e1.sl
  have hp2 := fr.t e2 hp
  generalize SlX.slH H1 x (He.ga K "Stack") dx (SlX.putS 2 (V.int (n : Int)) (SlX.putS 1 (V.ref t) [])) = H2 at s2 e2 hp2 ⊢
  refine ⟨_, rfl, p, [], rfl, .inr hp2, fun l hl => ?_⟩
  refine ⟨_, rfl, x, _, dx, _, _, 0, rfl, ex_slt (Ex.new hl) s2, T.c_Stack, T.s_Stack__layers, ?_⟩
  exact hQ _ (e2.ex (Ex.new hl)).sl
theorem mk_Stack1 {w : World} {K : Fg} {mg : Str → Option Value} {base : Heap} (T : Top K mg) : Mkr PR w K mg base 4 (He.ga K "Stack") [] (fun vs H Q E => spStackInit K (vs ++ [.ref (dfAd "Stack" K)]) H Q E) := by
  obtain ⟨M, fd, F⟩ := T.i_Stack
  refine ⟨_, M, fna_fill F sc_Stack_init (fun vs H Q E h => ?_) 2 rfl (fun _ _ _ _ _ _ _ us its h1 h2 => match us, its, h1, h2 with | [_, _], [_], _, _ => ⟨_, rfl, rfl⟩) (walk_Stack_init T)⟩
  obtain ⟨x, dx, t, p, n, rs, rfl, _⟩ := h
  rfl
def spHistInit (K : Fg) : Sp := fun vs H Q _ => ∃ (x dx t n : Addr) (rs : List Rwv), vs = [.ref x, .ref t] ∧ Fresh H x (He.ga K "History") dx ∧ VTab K H (He.ga K "Table") t n rs ∧ ∀ H', ExX x H H' → Q .non H'
theorem ok_History_init {w : World} {K : Fg} {mg : Str → Option Value} {base : Heap} (T : Top K mg) (M_Stack1 : Mkr PR w K mg base 4 (He.ga K "Stack") [] (fun vs H Q E => spStackInit K (vs ++ [.ref (dfAd "Stack" K)]) H Q E)) : FnA PR w K mg base 6 (initAt K "History") [] ((spHistInit K)) := by
  obtain ⟨_, fd, F⟩ := T.i_History
  refine fna_d0 F sc_History_init (fun vs H Q E h => ?_) (fun _ _ _ _ _ _ us hl => match us, hl with | [_, _], _ => rfl) (fun cdv A outer s H vs Q E hr h => ?_)
  · obtain ⟨x, dx, t, n, rs, rfl, fr, ht, hQ⟩ := h; rfl
  obtain ⟨x, dx, t, n, rs, rfl, fr, ht, hQ⟩ := h
  refine ⟨_, (pss_cons (ps_fld (pv 0) (pe_mk M_Stack1 (hr.mono (by decide)) (by rfl) T.g_Stack passLA (pa_cons (pv 1) pa_nil)) rfl)
    (pss_one (ps_fld (pv 0) (pe_lst (pa_cons pe_int pa_nil)) rfl))), ?_⟩
  refine ⟨_, rfl, rfl, fun y dy hy hdy hne => ?_⟩
  refine ⟨y, dy, t, _, n, rs, rfl, fresh_of hne, ?_, T.e_Stack _, fun H1 e1 => ⟨rfl, ?_⟩⟩
  · refine ht.mono (fun b o hb => ?_)
    have n1 := ne_of_none hb hy
    have n2 := ne_of_none hb hdy
    rw [upd_ne n1, upd_ne n2]
    exact hb
  have e1' := ExI.new hy hdy e1
  have hx1 := e1' _ _ fr.ins
  refine ⟨_, rfl, x, _, dx, [], rfl, hx1, T.c_History, T.n_History__stack, by decide, ?_⟩
  refine ⟨sz1, fun l hl => ?_⟩
  have e2 : ExX x H (upd (upd H1 x (.ins (He.ga K "History") dx (putF "_stack" (.ref y) []))) l (.lst [.int 0])) := (ExX.refl.ex e1').set.ex (Ex.new hl)
  have hx2 : upd (upd H1 x (.ins (He.ga K "History") dx (putF "_stack" (.ref y) []))) l (.lst [.int 0]) x = some (.ins (He.ga K "History") dx (putF "_stack" (.ref y) [])) := Ex.new hl _ _ upd_same
  exact ⟨_, rfl, x, _, dx, _, rfl, hx2, T.c_History, T.n_History__numbers, (by show (1 : Nat) < 1000; decide), hQ _ e2.set⟩
/-- a store at x by the rule s -/
def VSto (K : Fg) (H : Hp) (x : Addr) (s : Str) : Prop := ∃ dx v u, H x = some (.ins (He.ga K "Store") dx [("_by", .str s), ("_history", v), ("_pins", u)])
def spStoInit (K : Fg) : Sp := fun vs H Q E => ∃ (x dx t n : Addr) (rs : List Rwv) (s : Str), vs = [.ref x, .ref t, .str s] ∧ Fresh H x (He.ga K "Store") dx ∧ VTab K H (He.ga K "Table") t n rs ∧
  (¬ Good s → ∀ d H', H d = none → Ex H H' → H' d = some (.xd [("rule", .str s)]) → E (.ref (He.ga K "InvalidRule")) (some d) H') ∧ (Good s → ∀ H', ExX x H H' → VSto K H' x s → Q .non H')
theorem ok_Store_init {w : World} {K : Fg} {mg : Str → Option Value} {base : Heap} (T : Top K mg) (D_check_rule : Df PR w K mg base 2 "check_rule" [] (spRule K)) (M_History : Mkr PR w K mg base 6 (He.ga K "History") [] (spHistInit K)) : FnA PR w K mg base 8 (initAt K "Store") ["by"] ((spStoInit K)) := by
  obtain ⟨_, fd, F⟩ := T.i_Store
  refine fna_d1 F sc_Store_init (fun vs H Q E h => ?_) rfl (fun _ _ _ _ _ _ us z hl => match us, hl with | [_, _], _ => rfl) (fun cdv A outer s H vs Q E hr h => ?_)
  · obtain ⟨x, dx, t, n, rs, s', rfl, fr, ht, hir, hQ⟩ := h; rfl
  obtain ⟨x, dx, t, n, rs, s', rfl, fr, ht, hir, hQ⟩ := h
  refine ⟨_, (pss_cons (ps_expr (pe_df D_check_rule (hr.mono (by decide)) (by rfl) (fun σ => passAt tkOf σ) (pa_cons (pv 2) pa_nil)))
    (pss_cons (ps_fld (pv 0) (pv 2) rfl)
    (pss_cons (ps_fld (pv 0) (pe_mk M_History (hr.mono (by decide)) (by rfl) T.g_History passLA (pa_cons (pv 1) pa_nil)) rfl)
    (pss_one (ps_fld (pv 0) (pe_lst pa_nil) rfl))))), ?_⟩
  refine ⟨_, rfl, s', rfl, fun hg => ?_, hir⟩
  refine ⟨_, rfl, _, rfl, x, _, dx, [], rfl, fr.ins, T.c_Store, T.n_Store__by, by decide, ?_⟩
  have e1 : ExX x H (upd H x (.ins (He.ga K "Store") dx (putF "_by" (.str s') []))) := ExX.refl.set
  have hx1 : upd H x (.ins (He.ga K "Store") dx (putF "_by" (.str s') [])) x = some (.ins (He.ga K "Store") dx (putF "_by" (.str s') [])) := upd_same
  have ht1 : VTab K (upd H x (.ins (He.ga K "Store") dx (putF "_by" (.str s') []))) (He.ga K "Table") t n rs := by
    obtain ⟨dt, lk, lr, us, hsl, hlr, hv, hlk⟩ := ht
    have keepS : ∀ b o, H b = some o → (∀ C' d' fs, o ≠ .ins C' d' fs) → upd H x (.ins (He.ga K "Store") dx (putF "_by" (.str s') [])) b = some o := fun b o hb n => e1 b o (fun z => by rw [z, fr.ins] at hb; exact n _ _ _ (Option.some.inj hb).symm) hb
    have keepL : ∀ {a : Addr} {xs : List V}, SqL K H a xs → SqL K (upd H x (.ins (He.ga K "Store") dx (putF "_by" (.str s') []))) a xs := fun h => by
      rcases h with (h | ⟨o, h⟩) | h
      · exact .inl (.inl (keepS _ _ h fun _ _ _ z => nomatch z))
      · exact .inl (.inr ⟨o, keepS _ _ h fun _ _ _ z => nomatch z⟩)
      · exact .inr h
    refine ⟨dt, lk, lr, us, ?_, keepL hlr, vrs_ex (ExX.exN fr.ins e1) hv, keepL hlk⟩
    rcases hsl with ⟨_, hh⟩ | ⟨h, h'⟩
    · cases hh
    · exact .inr ⟨keepS _ _ h (fun _ _ _ z => by unfold SlX.SlO at z; cases z), keepS _ _ h' fun _ _ _ z => nomatch z⟩
  generalize upd H x (.ins (He.ga K "Store") dx (putF "_by" (.str s') [])) = H1 at e1 hx1 ht1 ⊢
  refine ⟨_, rfl, rfl, fun y dy hy hdy hne => ?_⟩
  refine ⟨y, dy, t, n, rs, rfl, fresh_of hne, ?_, fun H2 e2 => ⟨rfl, ?_⟩⟩
  · refine ht1.mono (fun b o hb => ?_)
    have n1 := ne_of_none hb hy
    have n2 := ne_of_none hb hdy
    rw [upd_ne n1, upd_ne n2]
    exact hb
  have e2' := ExX.new hy hdy e2
  refine ⟨_, rfl, x, _, dx, _, rfl, e2' _ _ hx1, T.c_Store, T.n_Store__history, (by show (1 : Nat) < 1000; decide), ?_⟩
  refine ⟨Nat.zero_le _, fun l hl => ?_⟩
  have e3 : ExX x H (upd (upd H2 x (.ins (He.ga K "Store") dx (putF "_history" (.ref y) (putF "_by" (.str s') [])))) l (.lst [])) := (e1.ex e2').set.ex (Ex.new hl)
  have hx3 : upd (upd H2 x (.ins (He.ga K "Store") dx (putF "_history" (.ref y) (putF "_by" (.str s') [])))) l (.lst []) x = some (.ins (He.ga K "Store") dx (putF "_history" (.ref y) (putF "_by" (.str s') []))) := Ex.new hl _ _ upd_same
  exact ⟨_, rfl, x, _, dx, _, rfl, hx3, T.c_Store, T.n_Store__pins, (by show (2 : Nat) < 1000; decide), hQ hg _ e3.set ⟨dx, .ref y, .ref l, upd_same⟩⟩
theorem mk_Store {w : World} {K : Fg} {mg : Str → Option Value} {base : Heap} (T : Top K mg) (D_check_rule : Df PR w K mg base 2 "check_rule" [] (spRule K)) (M_History : Mkr PR w K mg base 6 (He.ga K "History") [] (spHistInit K)) : Mkr PR w K mg base 8 (He.ga K "Store") ["by"] (spStoInit K) :=
  ⟨_, T.i_Store.1, ok_Store_init T D_check_rule M_History⟩
def spBy (K : Fg) : Sp := fun vs H Q _ => ∃ (x : Addr) (s : Str), vs = [.ref x] ∧ VSto K H x s ∧ Q (.str s) H
theorem ok_Store_by {w : World} {K : Fg} {mg : Str → Option Value} {base : Heap} (T : Top K mg)  : FnA PR w K mg base 1 ((At.pg "Store" "by").ad K) [] ((spBy K)) := by
  obtain ⟨_, fd, F⟩ := T.p_Store_by
  refine fna_d0 F sc_Store_by (fun vs H Q E h => ?_) (fun _ _ _ _ _ _ us hl => match us, hl with | [_], _ => rfl) (fun cdv A outer s H vs Q E hr h => ?_)
  · obtain ⟨x, s', rfl, ⟨dx, v, u, hx⟩, hQ⟩ := h; rfl
  obtain ⟨x, s', rfl, ⟨dx, v, u, hx⟩, hQ⟩ := h
  refine ⟨_, (pss_one (ps_ret (pe_fld (pv 0) rfl))), ?_⟩
  exact ⟨_, rfl, x, _, dx, _, _, rfl, hx, T.c_Store, T.n_Store__by, rfl, hQ⟩
def spBySet (K : Fg) : Sp := fun vs H Q E => ∃ (x : Addr) (s s' : Str), vs = [.ref x, .str s'] ∧ VSto K H x s ∧
  (¬ Good s' → ∀ d H', H d = none → Ex H H' → H' d = some (.xd [("rule", .str s')]) → E (.ref (He.ga K "InvalidRule")) (some d) H') ∧ (Good s' → ∀ H', ExX x H H' → VSto K H' x s' → Q .non H')
theorem ok_Store_by_set {w : World} {K : Fg} {mg : Str → Option Value} {base : Heap} (T : Top K mg) (D_check_rule : Df PR w K mg base 2 "check_rule" [] (spRule K)) : FnA PR w K mg base 3 ((At.ps "Store" "by").ad K) [] ((spBySet K)) := by
  obtain ⟨_, fd, F⟩ := T.q_Store_by
  refine fna_d0 F sc_Store_by_set (fun vs H Q E h => ?_) (fun _ _ _ _ _ _ us hl => match us, hl with | [_, _], _ => rfl) (fun cdv A outer s H vs Q E hr h => ?_)
  · obtain ⟨x, s1, s2, rfl, ⟨dx, v, u, hx⟩, hir, hQ⟩ := h; rfl
  obtain ⟨x, s1, s2, rfl, ⟨dx, v, u, hx⟩, hir, hQ⟩ := h
  refine ⟨_, (pss_cons (ps_expr (pe_df D_check_rule (hr.mono (by decide)) (by rfl) (fun σ => passAt tkOf σ) (pa_cons (pv 1) pa_nil)))
    (pss_one (ps_fld (pv 0) (pv 1) rfl))), ?_⟩
  refine ⟨_, rfl, s2, rfl, fun hg => ?_, hir⟩
  exact ⟨_, rfl, _, rfl, x, _, dx, _, rfl, hx, T.c_Store, T.n_Store__by, (by show (3 : Nat) < 1000; decide), hQ hg _ ExX.refl.set ⟨dx, v, u, upd_same⟩⟩
theorem ok_Store_use_rule {w : World} {K : Fg} {mg : Str → Option Value} {base : Heap} (T : Top K mg) (D_Store_by_set : SetD PR w K mg base 3 (He.ga K "Store") "by" (spBySet K)) : FnA PR w K mg base 6 (He.ma K (He.ga K "Store") "use_rule") [] ((spBySet K)) := by
  obtain ⟨_, fd, F⟩ := T.m_Store_use_rule
  refine fna_d0 F sc_Store_use_rule (fun vs H Q E h => ?_) (fun _ _ _ _ _ _ us hl => match us, hl with | [_, _], _ => rfl) (fun cdv A outer s H vs Q E hr h => ?_)
  · obtain ⟨x, s1, s2, rfl, hx, hir, hQ⟩ := h; rfl
  obtain ⟨x, s1, s2, rfl, hx, hir, hQ⟩ := h
  refine ⟨_, (pss_one (ps_setD (pv 0) (pv 1) D_Store_by_set (hr.mono (by decide)) (fun σ => passAt tkOf σ))), ?_⟩
  obtain ⟨dx, v, u, hx'⟩ := id hx
  exact ⟨_, rfl, _, rfl, x, dx, _, rfl, hx', x, s1, s2, rfl, hx, hir, hQ⟩
/-- a desk at x whose store is by the rule s -/
def VDsk (K : Fg) (H : Hp) (x : Addr) (s : Str) : Prop := ∃ dx y u, H x = some (.ins (He.ga K "Desk") dx [("store", .ref y), ("_named", u)]) ∧ VSto K H y s
def spDskInit (K : Fg) : Sp := fun vs H Q E => ∃ (x dx t n : Addr) (rs : List Rwv) (s : Str), vs = [.ref x, .ref t, .str s] ∧ Fresh H x (He.ga K "Desk") dx ∧ VTab K H (He.ga K "Table") t n rs ∧
  (¬ Good s → ∀ d H', H d = none → Ex H H' → H' d = some (.xd [("rule", .str s)]) → E (.ref (He.ga K "InvalidRule")) (some d) H') ∧ (Good s → ∀ H', ExX x H H' → VDsk K H' x s → Q .non H')
theorem ok_Desk_init {w : World} {K : Fg} {mg : Str → Option Value} {base : Heap} (T : Top K mg) (M_Store : Mkr PR w K mg base 8 (He.ga K "Store") ["by"] (spStoInit K)) : FnA PR w K mg base 10 (initAt K "Desk") ["by"] ((spDskInit K)) := by
  obtain ⟨_, fd, F⟩ := T.i_Desk
  refine fna_d1 F sc_Desk_init (fun vs H Q E h => ?_) rfl (fun _ _ _ _ _ _ us z hl => match us, hl with | [_, _], _ => rfl) (fun cdv A outer s H vs Q E hr h => ?_)
  · obtain ⟨x, dx, t, n, rs, s', rfl, fr, ht, hir, hQ⟩ := h; rfl
  obtain ⟨x, dx, t, n, rs, s', rfl, fr, ht, hir, hQ⟩ := h
  refine ⟨_, (pss_cons (ps_fld (pv 0) (pe_mkK M_Store (hr.mono (by decide)) (by rfl) T.g_Store (fun σ => passAt tkOf σ) (pa_cons (pv 1) pa_nil) (pk_cons (pv 2) pk_nil)) rfl)
    (pss_one (ps_fld (pv 0) pe_dnewK rfl))), ?_⟩
  refine ⟨_, rfl, _, rfl, rfl, fun y dy hy hdy hne => ?_⟩
  have en : Ex H (upd (upd H dy (.own y)) y (.ins (He.ga K "Store") dy [])) := fun b o hb => by
    have n1 := ne_of_none hb hy
    have n2 := ne_of_none hb hdy
    rw [upd_ne n1, upd_ne n2]
    exact hb
  refine ⟨y, dy, t, n, rs, s', rfl, fresh_of hne, ht.mono en, fun hb d H' hd e hd' => hir hb d H' (fresh_back en hd) (en.trans e) hd', fun hg H1 e1 hs => ⟨rfl, ?_⟩⟩
  have e1' := ExX.new hy hdy e1
  have hx1 := e1' _ _ fr.ins
  have hyx : y ≠ x := fun z => by rw [z, fr.ins] at hy; cases hy
  refine ⟨_, rfl, x, _, dx, [], rfl, hx1, T.c_Desk, T.n_Desk_store, by decide, ?_⟩
  intro l hl
  have e2 : ExX x H (upd (upd H1 x (.ins (He.ga K "Desk") dx (putF "store" (.ref y) []))) l (.dK [])) := (ExX.refl.ex e1').set.ex (Ex.new hl)
  have hx2 : upd (upd H1 x (.ins (He.ga K "Desk") dx (putF "store" (.ref y) []))) l (.dK []) x = some (.ins (He.ga K "Desk") dx (putF "store" (.ref y) [])) := Ex.new hl _ _ upd_same
  obtain ⟨ds, v, u, hys⟩ := hs
  have hy2 : upd (upd H1 x (.ins (He.ga K "Desk") dx (putF "store" (.ref y) []))) l (.dK []) y = some (.ins (He.ga K "Store") ds [("_by", .str s'), ("_history", v), ("_pins", u)]) := Ex.new hl _ _ (by rw [upd_ne hyx]; exact hys)
  refine ⟨_, rfl, x, _, dx, _, rfl, hx2, T.c_Desk, T.n_Desk__named, (by show (1 : Nat) < 1000; decide), hQ hg _ e2.set ⟨dx, y, .ref l, upd_same, ds, v, u, ?_⟩⟩
  rw [upd_ne hyx]
  exact hy2
theorem mk_Desk {w : World} {K : Fg} {mg : Str → Option Value} {base : Heap} (T : Top K mg) (M_Store : Mkr PR w K mg base 8 (He.ga K "Store") ["by"] (spStoInit K)) : Mkr PR w K mg base 10 (He.ga K "Desk") ["by"] (spDskInit K) := ⟨_, T.i_Desk.1, ok_Desk_init T M_Store⟩

end Kx

end

section
set_option Elab.async false
set_option linter.all false
set_option maxRecDepth 100000
set_option maxHeartbeats 4000000
namespace Kx
open PySem PySem.Spec PyProof.Rows L2 Evl Pl
/-! ### the law's draws -/
theorem sql_ne {K : Fg} {H : Hp} {a b : Addr} {o : HO} {xs : List V} (n : a ≠ b) (h : SqL K H a xs) : SqL K (upd H b o) a xs := by
  rcases h with (h | ⟨u, h⟩) | h
  · exact .inl (.inl (by rw [upd_ne n]; exact h))
  · exact .inl (.inr ⟨u, by rw [upd_ne n]; exact h⟩)
  · exact .inr h
theorem ExX.l {K : Fg} {H H' : Hp} {a b : Addr} {xs : List V} (n : a ≠ b) (e : ExX b H H') (h : SqL K H a xs) : SqL K H' a xs := by
  rcases h with (h | ⟨u, h⟩) | h
  · exact .inl (.inl (e _ _ n h))
  · exact .inl (.inr ⟨u, e _ _ n h⟩)
  · exact .inr h
theorem ExX.trans {x : Addr} {H H1 H2 : Hp} (a : ExX x H H1) (b : ExX x H1 H2) : ExX x H H2 := fun c o n h => b c o n (a c o n h)
theorem ExX.la {K : Fg} {H H' : Hp} {a b : Addr} {xs : List V} (n : a ≠ b ∨ ∀ H, SqL K H a xs) (e : ExX b H H') (h : SqL K H a xs) : SqL K H' a xs := by
  rcases n with n | n
  · exact e.l n h
  · exact n H'
/-- script and box -/
structure Box (K : Fg) (H : Hp) (a b : Addr) (ns : List Int) : Prop where
  ne : a ≠ b ∨ ∀ H, SqL K H a (vis ns)
  scr : SqL K H a (vis ns)
  len : ns.length ≤ 63
  box : ∃ l t : Int, H b = some (.lst [.int l, .int t]) ∧ 0 ≤ l ∧ 0 ≤ t
def spTake (K : Fg) : Sp := fun vs H Q _ => ∃ (a b : Addr) (ns : List Int) (lim : Int), vs = [.ref a, .ref b, .int lim] ∧ Box K H a b ns ∧ 1 ≤ lim ∧ lim.natAbs < 2 ^ 200 ∧ ∀ v H', 0 ≤ v → v < lim → ExX b H H' → Box K H' a b ns → Q (.int v) H'
theorem pow18 : ((10 : Int) ^ (18 : Int).toNat) = 1000000000000000000 := by decide
theorem ok__law_take {w : World} {K : Fg} {mg : Str → Option Value} {base : Heap} (T : Top K mg)  : FnA PR w K mg base 1 (He.ga K "_law_take") [] ((spTake K)) := by
  obtain ⟨_, fd, F⟩ := T.f__law_take
  refine fna_d0 F sc__law_take (fun vs H Q E h => ?_) (fun _ _ _ _ _ _ us hl => match us, hl with | [_, _, _], _ => rfl) (fun cdv A outer s H vs Q E hr h => ?_)
  · obtain ⟨a, b, ns, lim, rfl, ⟨hne, hS, hl63, l, t, hb, h0, h1⟩, hlim, hlim2, hQ⟩ := h; rfl
  obtain ⟨a, b, ns, lim, rfl, ⟨hne, hS, hl63, l, t, hb, h0, h1⟩, hlim, hlim2, hQ⟩ := h
  refine ⟨_, (pss_cut (ps_if (PW.pt (pw_and (pt_cmpR op_eq (pe_ix ix_list (pv 1) pe_int (fun _ _ => rfl)) pe_int (nomark _)) (pw_and1 (pt_cmpR op_lt (pe_ix ix_list (pv 1) pe_int (fun _ _ => rfl)) (pe_callB call_len_seq (by rfl) T.b_len (by decide +kernel) (pa_cons (pv 0) pa_nil)) (nomark _))))) (pss_cons (ps_set (i := 3) sc__law_take.nd rfl (Or.inl rfl) (pe_callTy call_int1 (by rfl) T.b_int (by decide +kernel) (pa_cons (pe_ix ix_list (pv 0) (pe_ix ix_list (pv 1) pe_int (fun _ _ => rfl)) (fun _ _ => rfl)) pa_nil)))
    (pss_cons (ps_set (i := 4) sc__law_take.nd rfl (Or.inl rfl) (pe_callB call_abs (by rfl) T.b_abs (by decide +kernel) (pa_cons (pv 3) pa_nil)))
    (pss_cut (ps_if (pt_cmpR op_lt (pv 4) (pe_op op_pow pe_int pe_int) (nomark _)) (pss_cons (ps_set (i := 4) sc__law_take.nd rfl (Or.inl rfl) (pe_op op_mod (pe_callTy call_int1 (by rfl) T.b_int (by decide +kernel) (pa_cons (pe_op op_mulW (pe_op op_add (pe_op op_add (pe_op op_mulW pe_int (pv 4)) (pe_callTy call_int1 (by rfl) T.b_int (by decide +kernel) (pa_cons (pe_cmpR op_lt (pv 3) pe_int (nomark _)) pa_nil))) pe_int) (pe_op op_add pe_int (pe_op op_mulW pe_int (pe_ix ix_list (pv 1) pe_int (fun _ _ => rfl))))) pa_nil)) pe_int))
    (pss_one (ps_set (i := 4) sc__law_take.nd rfl (Or.inl rfl) (pe_op op_mod (pe_callTy call_int1 (by rfl) T.b_int (by decide +kernel) (pa_cons (pe_op op_mulW (pv 4) (pv 4)) pa_nil)) pe_int)))) pss_nil)
    (pss_cons (ps_asg (pv 4) (pg_sub (pv 1) pe_int set_list))
    (pss_one (ps_asg (pe_op op_add (pe_ix ix_list (pv 1) pe_int (fun _ _ => rfl)) pe_int) (pg_sub (pv 1) pe_int set_list))))))) pss_nil)
    (pss_cons (ps_set (i := 5) sc__law_take.nd rfl (Or.inl rfl) (pe_op op_mod (pe_callTy call_int1 (by rfl) T.b_int (by decide +kernel) (pa_cons (pe_ix ix_list (pv 1) pe_int (fun _ _ => rfl)) pa_nil)) (pv 2)))
    (pss_cons (ps_asg (pe_op op_fdivW (pe_ix ix_list (pv 1) pe_int (fun _ _ => rfl)) (pv 2)) (pg_sub (pv 1) pe_int set_list))
    (pss_one (ps_ret (pv 5)))))), ?_⟩
  refine ⟨fun σ' H' => ∃ l1 t1 m1 m2, σ' = [some (.ref a), some (.ref b), some (.int lim), m1, m2, none] ∧ H' b = some (.lst [.int l1, .int t1]) ∧ ExX b H H' ∧ 0 ≤ l1 ∧ 0 ≤ t1, ?_, ?_⟩
  · refine ⟨_, rfl, _, _, _, _, rfl, rfl, sq_of hb, atI0 rfl, rfl, _, rfl, ?_⟩
    have fin : ∃ l1 t1 m1 m2, ([some (.ref a), some (.ref b), some (.int lim), none, none, none] : L2.St) = [some (.ref a), some (.ref b), some (.int lim), m1, m2, none] ∧ H b = some (.lst [.int l1, .int t1]) ∧ ExX b H H ∧ 0 ≤ l1 ∧ 0 ≤ t1 := ⟨l, t, none, none, rfl, hb, ExX.refl, h0, h1⟩
    refine ite2 (fun _ => ?_) fun _ => iteF fin
    refine ⟨_, rfl, _, _, _, _, rfl, rfl, sq_of hb, atI1 rfl, _, rfl, _, _, rfl, .inl hS, _, _, rfl, rfl, _, rfl, ?_⟩
    refine ite2 (fun h => ?_) fun _ => fin
    have ht : t.toNat < ns.length := by
      have := of_decide_eq_true h
      rw [vis_len] at this
      omega
    have hx : ns[t.toNat]? = some ns[t.toNat] := List.getElem?_eq_getElem ht
    refine ⟨_, rfl, _, rfl, _, _, _, _, rfl, rfl, sq_of hb, atI1 rfl, _, _, _, _, rfl, rfl, hS, atI_int h1 (vis_get hx), .inl ⟨_, rfl, ?_⟩⟩
    generalize ns[t.toNat] = c
    refine ⟨_, rfl, _, rfl, ?_⟩
    have hc0 : 0 ≤ (if c < 0 then -c else c) := by split <;> omega
    generalize (if c < 0 then -c else c) = z at hc0
    refine ⟨fun σ' H' => H' = H ∧ ∃ z', σ' = [some (.ref a), some (.ref b), some (.int lim), some (.int c), some (.int z'), none] ∧ 0 ≤ z', ?_, ?_⟩
    · refine ⟨_, rfl, _, _, rfl, rfl, ⟨by decide, by decide, by decide⟩, _, _, rfl, rfl, _, rfl, ?_⟩
      refine ite2 (fun h => ?_) fun _ => ⟨rfl, z, rfl, hc0⟩
      have hz : z < 1000000000000000000 := by
        have := of_decide_eq_true h
        rw [pow18] at this
        exact this
      refine ⟨_, rfl, _, _, rfl, rfl, wide_mul (a := 2) (b := 70) (by decide) (by show z.natAbs < 1180591620717411303424; omega) (by decide) (by decide) (by decide), ?_⟩
      refine ⟨_, rfl, _, _, rfl, rfl, .inr ⟨_, rfl, _, _, rfl, rfl, _, _, rfl, rfl, ?_⟩⟩
      have hbb : (if decide (c < 0) = true then (1 : Int) else 0) = b2 (decide (c < 0)) := rfl
      rw [hbb]
      have hb2 : 0 ≤ b2 (decide (c < 0)) ∧ b2 (decide (c < 0)) ≤ 1 := by unfold b2; split <;> omega
      generalize b2 (decide (c < 0)) = q at hb2
      refine ⟨_, rfl, _, _, _, _, rfl, rfl, sq_of hb, atI1 rfl, _, _, rfl, rfl, wide_mul (a := 2) (b := 70) (by decide) (by show t.natAbs < 1180591620717411303424; omega) (by decide) (by decide) (by decide), _, _, rfl, rfl, _, _, rfl, rfl, ?_, ?_⟩
      · exact wide_mul (a := 80) (b := 80) (by show (2 * z + q + 1).natAbs < 1208925819614629174706176; omega) (by show (1000000007 + 2 * t).natAbs < 1208925819614629174706176; omega) (by decide) (by decide) (by decide)
      refine .inl ⟨_, rfl, _, _, rfl, rfl, (by show (0 : Int) < 2147483647; decide), ?_⟩
      have hu : ((2 * z + q + 1) * (1000000007 + 2 * t) % 2147483647).natAbs < 2 ^ 40 := by
        show ((2 * z + q + 1) * (1000000007 + 2 * t) % 2147483647).natAbs < 1099511627776
        omega
      refine ⟨_, rfl, _, rfl, _, _, rfl, rfl, wide_mul (a := 40) (b := 40) hu hu (by decide) (by decide) (by decide), .inl ⟨_, rfl, _, _, rfl, rfl, (by show (0 : Int) < 998244353; decide), ?_⟩⟩
      exact ⟨rfl, _, rfl, Int.emod_nonneg _ (by decide)⟩
    · rintro σ' H' ⟨rfl, z', rfl, hz'⟩
      refine ⟨_, rfl, _, rfl, b, _, 0, 0, rfl, rfl, hb, rfl, ?_⟩
      refine ⟨_, rfl, _, _, _, _, rfl, rfl, sq_of upd_same, atI1 rfl, _, _, rfl, rfl, _, rfl, b, _, 1, 1, rfl, rfl, upd_same, rfl, ?_⟩
      exact ⟨_, _, _, _, rfl, upd_same, (ExX.refl.set).set, hz', by omega⟩
  · rintro σ' H' ⟨l1, t1, m1, m2, rfl, hb', e, g0, g1⟩
    refine ⟨_, rfl, _, _, _, _, rfl, rfl, sq_of hb', atI0 rfl, .inl ⟨_, rfl, _, rfl, _, _, rfl, rfl, (by show 0 < lim; omega), ?_⟩⟩
    refine ⟨_, rfl, _, _, _, _, rfl, rfl, sq_of hb', atI0 rfl, _, rfl, _, _, rfl, rfl, wide_div (by omega) hlim2 (by decide) (by decide), _, rfl, b, _, 0, 0, rfl, rfl, hb', rfl, ?_⟩
    refine ⟨_, rfl, hQ _ _ (Int.emod_nonneg _ (by omega)) (Int.emod_lt_of_pos _ (by omega)) e.set ⟨hne, ExX.la hne e.set hS, hl63, _, _, upd_same, Int.ediv_nonneg g0 (by omega), g1⟩⟩
def spNum (K : Fg) : Sp := fun vs H Q _ => ∃ (a b : Addr) (ns : List Int), vs = [.ref a, .ref b] ∧ Box K H a b ns ∧ ∀ (v : Int) H', ExX b H H' → Box K H' a b ns → Q (.int v) H'
theorem Box.ex {K : Fg} {H H' : Hp} {a b : Addr} {ns : List Int} (h : Box K H a b ns) (e : Ex H H') : Box K H' a b ns := by
  obtain ⟨h1, h2, h3, l, t, hb, h4, h5⟩ := h
  exact ⟨h1, ex_l e h2, h3, l, t, e _ _ hb, h4, h5⟩
theorem pow40 : ((10 : Int) ^ (40 : Int).toNat) = 10000000000000000000000000000000000000000 := by decide
theorem list_at {xs : List V} {v : Int} (h0 : 0 ≤ v) (h : v < xs.length) : ∃ y, xs[v.toNat]? = some y ∧ y ∈ xs := ⟨xs[v.toNat]'(by omega), List.getElem?_eq_getElem (by omega), List.getElem_mem _⟩
theorem ok__law_number {w : World} {K : Fg} {mg : Str → Option Value} {base : Heap} (T : Top K mg) (D__law_take : Df PR w K mg base 1 "_law_take" [] (spTake K)) : FnA PR w K mg base 2 (He.ga K "_law_number") [] ((spNum K)) := by
  obtain ⟨_, fd, F⟩ := T.f__law_number
  refine fna_d0 F sc__law_number (fun vs H Q E h => ?_) (fun _ _ _ _ _ _ us hl => match us, hl with | [_, _], _ => rfl) (fun cdv A outer s H vs Q E hr h => ?_)
  · obtain ⟨a, b, ns, rfl, hB, hQ⟩ := h; rfl
  obtain ⟨a, b, ns, rfl, hB, hQ⟩ := h
  refine ⟨_, (pss_cons (ps_set (i := 2) sc__law_number.nd rfl (Or.inl rfl) (pe_df D__law_take (hr.mono (by decide)) (by rfl) passLA (pa_cons (pv 0) (pa_cons (pv 1) (pa_cons pe_int pa_nil)))))
    (pss_cons (ps_if (pt_cmpR op_lt (pv 2) pe_int (nomark _)) (pss_one (ps_ret (pe_ix ix_list (pe_lst (pa_cons pe_int (pa_cons pe_int (pa_cons pe_int (pa_cons (pe_un un_neg pe_int) pa_nil))))) (pv 2) (fun _ _ => rfl)))) pss_nil)
    (pss_cons (ps_set (i := 3) sc__law_number.nd rfl (Or.inl rfl) (pe_df D__law_take (hr.mono (by decide)) (by rfl) passLA (pa_cons (pv 0) (pa_cons (pv 1) (pa_cons (pe_op op_pow pe_int pe_int) pa_nil)))))
    (pss_cons (ps_if (pt_cmpR op_eq (pv 2) pe_int (nomark _)) (pss_one (ps_ret (pv 3))) pss_nil)
    (pss_one (ps_ret (pe_op op_sub (pe_un un_neg pe_int) (pv 3)))))))), ?_⟩
  refine ⟨_, rfl, _, rfl, a, b, ns, 6, rfl, hB, by decide, by decide, fun v H1 v0 v1 e1 hB1 => ?_⟩
  refine ⟨_, rfl, _, _, rfl, rfl, _, rfl, ?_⟩
  refine ite2 (fun h => ?_) fun h => ?_
  · have hv : v < 4 := of_decide_eq_true h
    refine ⟨1, rfl, sz4, fun p hp => ?_⟩
    refine ⟨_, rfl, ?_⟩
    obtain ⟨y, hy, hm⟩ := list_at (xs := [.int 0, .int 1, .int 2, .int (-1)]) v0 (by show v < 4; exact hv)
    refine ⟨_, _, _, _, rfl, rfl, sq_of upd_same, atI_int v0 hy, ?_⟩
    have hi : ∃ i : Int, y = .int i := by
      simp only [List.mem_cons, List.not_mem_nil, or_false] at hm
      rcases hm with h | h | h | h <;> exact ⟨_, h⟩
    obtain ⟨i, rfl⟩ := hi
    exact hQ _ _ (e1.ex (Ex.new hp)) (hB1.ex (Ex.new hp))
  · refine ⟨_, rfl, _, rfl, _, _, rfl, rfl, ⟨by decide, by decide, by decide⟩, a, b, ns, _, rfl, hB1, ?_, ?_, fun u H2 u0 u1 e2 hB2 => ?_⟩
    · show (1 : Int) ≤ 10 ^ (40 : Int).toNat
      rw [pow40]
      decide
    · show ((10 : Int) ^ (40 : Int).toNat).natAbs < 2 ^ 200
      rw [pow40]
      decide
    refine ⟨_, rfl, rfl, _, rfl, ?_⟩
    refine ite2 (fun _ => ⟨_, rfl, hQ _ _ (e1.trans e2) hB2⟩) fun _ => ?_
    exact ⟨1, rfl, _, rfl, _, _, rfl, rfl, hQ _ _ (e1.trans e2) hB2⟩
def spWidth (K : Fg) : Sp := fun vs H Q _ => ∃ (a b : Addr) (ns : List Int), vs = [.ref a, .ref b] ∧ Box K H a b ns ∧ ∀ (n : Nat) H', 1 ≤ n → n ≤ 8 → ExX b H H' → Box K H' a b ns → Q (.int (n : Int)) H'
theorem ok__law_width {w : World} {K : Fg} {mg : Str → Option Value} {base : Heap} (T : Top K mg) (D__law_take : Df PR w K mg base 1 "_law_take" [] (spTake K)) : FnA PR w K mg base 2 (He.ga K "_law_width") [] ((spWidth K)) := by
  obtain ⟨_, fd, F⟩ := T.f__law_width
  refine fna_d0 F sc__law_width (fun vs H Q E h => ?_) (fun _ _ _ _ _ _ us hl => match us, hl with | [_, _], _ => rfl) (fun cdv A outer s H vs Q E hr h => ?_)
  · obtain ⟨a, b, ns, rfl, hB, hQ⟩ := h; rfl
  obtain ⟨a, b, ns, rfl, hB, hQ⟩ := h
  refine ⟨_, (pss_cons (ps_set (i := 2) sc__law_width.nd rfl (Or.inl rfl) (pe_ix ix_list (pe_lst (pa_cons pe_int (pa_cons pe_int (pa_cons pe_int (pa_cons pe_int (pa_cons pe_int (pa_cons pe_int (pa_cons pe_int (pa_cons pe_int pa_nil))))))))) (pe_df D__law_take (hr.mono (by decide)) (by rfl) passLA (pa_cons (pv 0) (pa_cons (pv 1) (pa_cons pe_int pa_nil)))) (fun _ _ => rfl)))
    (pss_cut (ps_if (pt_cmpR op_eq (pv 2) pe_int (nomark _)) (pss_one (ps_set (i := 2) sc__law_width.nd rfl (Or.inl rfl) (pe_op op_add pe_int (pe_df D__law_take (hr.mono (by decide)) (by rfl) passLA (pa_cons (pv 0) (pa_cons (pv 1) (pa_cons pe_int pa_nil))))))) pss_nil)
    (pss_one (ps_ret (pv 2))))), ?_⟩
  refine ⟨by show 8 ≤ sizeLine; rw [sizeLine_eq]; decide, fun p hp => ?_⟩
  refine ⟨_, rfl, _, rfl, a, b, ns, 8, rfl, hB.ex (Ex.new hp), by decide, by decide, fun v H1 v0 v1 e1 hB1 => ?_⟩
  have hne : p ≠ b := fun z => by
    obtain ⟨_, _, _, l, t, hb, _⟩ := hB
    rw [← z, hp] at hb
    cases hb
  obtain ⟨y, hy, hm⟩ := list_at (xs := [.int 2, .int 3, .int 1, .int 4, .int 2, .int 3, .int 5, .int 8]) v0 (by show v < 8; exact v1)
  refine ⟨_, _, _, _, rfl, rfl, sq_of (e1 _ _ hne upd_same), atI_int v0 hy, ?_⟩
  have hi : ∃ i : Int, y = .int i ∧ 1 ≤ i ∧ i ≤ 8 := by
    simp only [List.mem_cons, List.not_mem_nil, or_false] at hm
    rcases hm with h | h | h | h | h | h | h | h <;> exact ⟨_, h, by decide, by decide⟩
  obtain ⟨i, rfl, i0, i1⟩ := hi
  have e1' : ExX b H H1 := (ExX.refl.ex (Ex.new hp)).trans e1
  refine ⟨fun σ' H' => ∃ n : Nat, σ' = [some (.ref a), some (.ref b), some (.int (n : Int))] ∧ 1 ≤ n ∧ n ≤ 8 ∧ ExX b H H' ∧ Box K H' a b ns, ?_, ?_⟩
  · refine ⟨_, rfl, rfl, _, rfl, ?_⟩
    refine ite2 (fun _ => ?_) fun _ => ⟨i.toNat, by rw [Int.toNat_of_nonneg (by omega)]; rfl, by omega, by omega, e1', hB1⟩
    refine ⟨_, rfl, _, rfl, a, b, ns, 4, rfl, hB1, by decide, by decide, fun u H2 u0 u1 e2 hB2 => ?_⟩
    refine ⟨_, _, rfl, rfl, (5 + u).toNat, ?_, by omega, by omega, e1'.trans e2, hB2⟩
    rw [Int.toNat_of_nonneg (by omega)]
    rfl
  · rintro σ' H' ⟨n, rfl, n0, n1, e, hB'⟩
    exact ⟨_, rfl, hQ n H' n0 n1 e hB'⟩
def spText (K : Fg) : Sp := fun vs H Q _ => ∃ (a b : Addr) (ns : List Int), vs = [.ref a, .ref b] ∧ Box K H a b ns ∧ ∀ (s : Str) H', ExX b H H' → Box K H' a b ns → Q (.str s) H'
theorem cut_len (z : Str) (lo hi : Option Int) : (cutS z lo hi).length ≤ z.length := by
  show (((z.cps.toList.drop _).take _).toArray).size ≤ z.cps.size
  rw [List.size_toArray, List.length_take, List.length_drop, Array.length_toList]
  omega
theorem ok__law_text {w : World} {K : Fg} {mg : Str → Option Value} {base : Heap} (T : Top K mg) (D__law_take : Df PR w K mg base 1 "_law_take" [] (spTake K)) : FnA PR w K mg base 2 (He.ga K "_law_text") [] ((spText K)) := by
  obtain ⟨_, fd, F⟩ := T.f__law_text
  refine fna_d0 F sc__law_text (fun vs H Q E h => ?_) (fun _ _ _ _ _ _ us hl => match us, hl with | [_, _], _ => rfl) (fun cdv A outer s H vs Q E hr h => ?_)
  · obtain ⟨a, b, ns, rfl, hB, hQ⟩ := h; rfl
  obtain ⟨a, b, ns, rfl, hB, hQ⟩ := h
  refine ⟨_, (pss_cons (ps_set (i := 2) sc__law_text.nd rfl (Or.inl rfl) (pe_df D__law_take (hr.mono (by decide)) (by rfl) passLA (pa_cons (pv 0) (pa_cons (pv 1) (pa_cons pe_int pa_nil)))))
    (pss_cons (ps_set (i := 3) sc__law_text.nd rfl (Or.inl rfl) (pe_slice sl_str pe_str (po_some (pv 2)) (po_some (pe_op op_add (pv 2) (pe_df D__law_take (hr.mono (by decide)) (by rfl) passLA (pa_cons (pv 0) (pa_cons (pv 1) (pa_cons pe_int pa_nil))))))))
    (pss_cons (ps_set (i := 4) sc__law_text.nd rfl (Or.inl rfl) (pe_df D__law_take (hr.mono (by decide)) (by rfl) passLA (pa_cons (pv 0) (pa_cons (pv 1) (pa_cons pe_int pa_nil)))))
    (pss_cons (ps_if (pt_cmpR op_eq (pv 4) pe_int (nomark _)) (pss_one (ps_ret (pe_upper (pv 3)))) pss_nil)
    (pss_cons (ps_if (pt_cmpR op_eq (pv 4) pe_int (nomark _)) (pss_one (ps_ret (pe_op op_add_str pe_str (pv 3)))) pss_nil)
    (pss_cons (ps_if (pt_cmpR op_eq (pv 4) pe_int (nomark _)) (pss_one (ps_ret (pe_op op_add_str (pv 3) pe_str))) pss_nil)
    (pss_cons (ps_if (pt_cmpR op_eq (pv 4) pe_int (nomark _)) (pss_one (ps_ret (pe_op op_add_str (pv 3) pe_str))) pss_nil)
    (pss_cons (ps_if (pt_cmpR op_eq (pv 4) pe_int (nomark _)) (pss_one (ps_ret (pe_ix ix_list (pe_lst (pa_cons pe_str (pa_cons pe_str pa_nil))) (pe_df D__law_take (hr.mono (by decide)) (by rfl) passLA (pa_cons (pv 0) (pa_cons (pv 1) (pa_cons pe_int pa_nil)))) (fun _ _ => rfl)))) pss_nil)
    (pss_one (ps_ret (pv 3))))))))))), ?_⟩
  refine ⟨_, rfl, _, rfl, a, b, ns, 11, rfl, hB, by decide, by decide, fun v H1 v0 v1 e1 hB1 => ?_⟩
  refine ⟨_, rfl, _, rfl, _, rfl, _, rfl, _, rfl, a, b, ns, 11, rfl, hB1, by decide, by decide, fun u H2 u0 u1 e2 hB2 => ?_⟩
  refine ⟨_, _, rfl, rfl, _, rfl, _, rfl, by decide, ?_⟩
  have hz := cut_len ("row,column" : Str) (some v) (some (v + u))
  have h10 : ("row,column" : Str).length = 10 := by decide
  show tSeq _ _ _ _ _
  generalize cutS ("row,column" : Str) (some v) (some (v + u)) = z at hz
  rw [h10] at hz
  have sz : ∀ n : Nat, n ≤ 100 → n ≤ sizeLine := fun n h => Nat.le_of_lt (szK (by omega))
  refine ⟨_, rfl, _, rfl, a, b, ns, 6, rfl, hB2, by decide, by decide, fun k H3 k0 k1 e3 hB3 => ?_⟩
  have e123 := (e1.trans e2).trans e3
  refine ⟨_, rfl, rfl, _, rfl, ite2 (fun _ => ⟨_, rfl, ⟨_, rfl⟩, z, rfl, rfl, by omega, hQ _ _ e123 hB3⟩) fun _ => ?_⟩
  refine ⟨_, rfl, rfl, _, rfl, ite2 (fun _ => ⟨_, rfl, _, _, rfl, rfl, sz _ (by show 1 + z.length ≤ 100; omega), hQ _ _ e123 hB3⟩) fun _ => ?_⟩
  refine ⟨_, rfl, rfl, _, rfl, ite2 (fun _ => ⟨_, rfl, _, _, rfl, rfl, sz _ (by show z.length + 1 ≤ 100; omega), hQ _ _ e123 hB3⟩) fun _ => ?_⟩
  refine ⟨_, rfl, rfl, _, rfl, ite2 (fun _ => ⟨_, rfl, _, _, rfl, rfl, sz _ (by show z.length + 1 ≤ 100; omega), hQ _ _ e123 hB3⟩) fun _ => ?_⟩
  refine ⟨_, rfl, rfl, _, rfl, ite2 (fun _ => ?_) fun _ => ⟨_, rfl, hQ _ _ e123 hB3⟩⟩
  refine ⟨sz2, fun p hp => ?_⟩
  have hne : p ≠ b := fun z => by
    obtain ⟨_, _, _, l, t, hb, _⟩ := hB3
    rw [← z, hp] at hb
    cases hb
  refine ⟨_, rfl, _, rfl, a, b, ns, 2, rfl, hB3.ex (Ex.new hp), by decide, by decide, fun q H4 q0 q1 e4 hB4 => ?_⟩
  obtain ⟨y, hy, hm⟩ := list_at (xs := [.str ("row" : Str), .str ("column" : Str)]) q0 (by show q < 2; exact q1)
  refine ⟨_, _, _, _, rfl, rfl, sq_of (e4 _ _ hne upd_same), atI_int q0 hy, ?_⟩
  have hi : ∃ s : Str, y = .str s := by
    simp only [List.mem_cons, List.not_mem_nil, or_false] at hm
    rcases hm with h | h <;> exact ⟨_, h⟩
  obtain ⟨s1, rfl⟩ := hi
  exact hQ _ _ ((e123.ex (Ex.new hp)).trans e4) hB4

end Kx

end

section
set_option Elab.async false
set_option linter.all false
set_option maxRecDepth 100000
set_option maxHeartbeats 4000000
namespace Kx
open PySem PySem.Spec PyProof.Rows L2 Evl Pl
/-! ### one call at a door -/
theorem mk_en {H : Hp} {x dx C : Addr} (hx : H x = none) (hdx : H dx = none) : Ex H (upd (upd H dx (.own x)) x (.ins C dx [])) := fun b o hb => by rw [upd_ne (ne_of_none hb hx), upd_ne (ne_of_none hb hdx)]; exact hb
structure CallEnd (K : Fg) (H : Hp) (door : Int) (s : Str) (st : Addr) (Q : VK) (E : XK) : Prop where
  ir : ¬ Good s → ∀ d H', H d = none → Ex H H' → H' d = some (.xd [("rule", .str s)]) → E (.ref (He.ga K "InvalidRule")) (some d) H'
  dw : Good s → door ≤ 3 → ∀ d H', H d = none → Ex H H' → E (.ref (He.ga K "DifferentWidth")) (some d) H'
  nb : Good s → 4 ≤ door → door ≤ 6 → ∀ H', Ex H H' → E (.ref (He.ga K "NoCommonBase")) none H'
  cf : Good s → 7 ≤ door → door ≤ 9 → ∀ d H', H d = none → Ex H H' → E (.ref (He.ga K "Conflict")) (some d) H'
  tr : Good s → 10 ≤ door → door ≤ 12 → ∀ H', Ex H H' → Q (.bl true) H'
  us : Good s → door = 13 → ∀ H', ExX st H H' → VSto K H' st s → Q (.bl true) H'
/-- the later, with an elder heap's ends -/
theorem CallEnd.ex {K : Fg} {H H1 : Hp} {door : Int} {s : Str} {st : Addr} {Q : VK} {E : XK} (h : CallEnd K H door s st Q E) (e : Ex H H1) : CallEnd K H1 door s st Q E :=
  ⟨fun g d H' hd e1 hd' => h.ir g d H' (fresh_back e hd) (e.trans e1) hd', fun g a d H' hd e1 => h.dw g a d H' (fresh_back e hd) (e.trans e1), fun g a b H' e1 => h.nb g a b H' (e.trans e1), fun g a b d H' hd e1 => h.cf g a b d H' (fresh_back e hd) (e.trans e1),
    fun g a b H' e1 => h.tr g a b H' (e.trans e1), fun g a H' e1 hs => h.us g a H' ((ExX.refl.ex e).trans e1) hs⟩
def spCall (K : Fg) : Sp := fun vs H Q E => ∃ (door : Int) (s s0 : Str) (n : Nat) (r st : Addr) (rr : Rwv), vs = [.int door, .str s, .int (n : Int), .ref r, .ref st] ∧ 0 ≤ door ∧ door ≤ 13 ∧ SqT K H r (vis rr) ∧ RowOk n rr ∧ 1 ≤ n ∧ n ≤ 8 ∧ VSto K H st s0 ∧ CallEnd K H door s st Q E
/-- the ends of moved, from a call's -/
theorem rule_str (s : Str) : rEq (V.str s) (V.str s) = rEq (V.str s) (V.str s) := rfl
theorem eq_true_str {s : Str} {H : Hp} {Q : VK} (q : Q (.bl true) H) : rEq (V.str s) (V.str s) H Q := ⟨by show true = true; rfl, by rw [decide_eq_true rfl]; exact q⟩
theorem cut_tail (x : V) (xs : List V) : cutV (x :: xs) (some 1) Option.none = xs := by
  show ((x :: xs).drop (min 1 (x :: xs).length)).take ((x :: xs).length - min 1 (x :: xs).length) = xs
  have h : min 1 (x :: xs).length = 1 := by
    rw [List.length_cons]
    omega
  rw [h, List.drop_one, List.tail_cons, List.length_cons]
  exact List.take_of_length_le (by omega)
theorem cut_not (x : V) (xs : List V) : ¬ (HT.sIx (x :: xs).length 0 (some 1) = 0 ∧ HT.sIx (x :: xs).length (x :: xs).length Option.none = (x :: xs).length) := fun z => by
  have h : min 1 (x :: xs).length = 0 := z.1
  rw [List.length_cons] at h
  omega
theorem confEnd_of {K : Fg} {H : Hp} {door : Int} {s : Str} {st : Addr} {Q Q' : VK} {E : XK} {n m : Nat} {es fs : List Ent} (hE : CallEnd K H door s st Q E) (c : (n ≠ m ∧ door ≤ 3) ∨ (n = m ∧ 4 ≤ door ∧ door ≤ 6 ∧ linksM (turnedM es) fs = none)) : ConfEnd K H n m es fs s Q' E := by
  refine ⟨hE.ir, fun g hnm d H' hd e _ => ?_, fun g hnm hl H' e => ?_, fun g hnm hl => ?_⟩
  · rcases c with c | c
    · exact hE.dw g c.2 d H' hd e
    · exact absurd c.1 hnm
  · rcases c with c | c
    · exact absurd hnm c.1
    · exact hE.nb g c.2.1 c.2.2.1 H' e
  · rcases c with c | c
    · exact absurd hnm c.1
    · rw [c.2.2.2] at hl
      cases hl
theorem movEnd_of {K : Fg} {H : Hp} {door : Int} {s : Str} {st : Addr} {Q : VK} {E : XK} {n m : Nat} {es fs : List Ent} (hE : CallEnd K H door s st Q E)
    (c : (n ≠ m ∧ door ≤ 3) ∨ (n = m ∧ 4 ≤ door ∧ door ≤ 6 ∧ linksM (turnedM es) fs = none) ∨ (n = m ∧ 7 ≤ door ∧ door ≤ 9 ∧ (linksM (turnedM es) fs).isSome = true)) : MovEnd K H n m es fs s E := by
  refine ⟨hE.ir, fun g hnm d H' hd e => ?_, fun g hnm hl H' e => ?_, fun g hnm hl d H' hd e => ?_⟩
  · rcases c with c | c | c
    · exact hE.dw g c.2 d H' hd e
    · exact absurd c.1 hnm
    · exact absurd c.1 hnm
  · rcases c with c | c | c
    · exact absurd hnm c.1
    · exact hE.nb g c.2.1 c.2.2.1 H' e
    · rw [hl] at c
      cases c.2.2.2
  · rcases c with c | c | c
    · exact absurd hnm c.1
    · rw [c.2.2.2] at hl
      cases hl
    · exact hE.cf g c.2.1 c.2.2.1 d H' hd e
theorem half_one {p q : Int} {r r' : Rwv} {s : Str} : ∀ e ∈ [delE p r], ∀ f ∈ [delE q r'], e.key = f.key → ByRow s ∨ Half e ∨ Half f := fun e he f _ _ => by
  rw [List.mem_singleton] at he
  rw [he]
  exact .inr (.inl (.inr rfl))
theorem half_nil {es : List Ent} {s : Str} : ∀ e ∈ es, ∀ f ∈ ([] : List Ent), e.key = f.key → ByRow s ∨ Half e ∨ Half f := fun _ _ f hf => by simp at hf
theorem half_nil' {fs : List Ent} {s : Str} : ∀ e ∈ ([] : List Ent), ∀ f ∈ fs, e.key = f.key → ByRow s ∨ Half e ∨ Half f := fun e he => by simp at he
def entD (r : Rwv) : PyData := .tuple [.int 0, orowD (some r), .none]
theorem entD_eq (r : Rwv) : PyData.eqv (.list [entD r]) (.list [entD r]) = true := by
  show (((0 : Int) == 0) && (PyData.eqv (orowD (some r)) (orowD (some r)) && (true && true)) && true) = true
  rw [orowD_eqv, decide_eq_true rfl]
  rfl
theorem entD_shaped (r : Rwv) : SeqAt.shaped (.list [entD r]) = true := by
  have h := orowD_depth (some r)
  have h2 : PyData.depth (.list [entD r]) ≤ 64 := by
    simp only [entD, PyData.depth, PyData.depthAll]
    omega
  show (PyData.canLay0 (.list [entD r]) && decide (PyData.depth (.list [entD r]) ≤ 64)) = true
  rw [Bool.and_eq_true]
  refine ⟨?_, decide_eq_true h2⟩
  simp only [entD, PyData.canLay0, PyData.canLayAll0, orowD_lay, Bool.and_true, Bool.true_and]
theorem not_door {door i : Int} (h : ¬ decide (V.int door = V.int i) = true) : door ≠ i := fun z => h (decide_eq_true (by rw [z]))
theorem is_door {door i : Int} (h : decide (V.int door = V.int i) = true) : door = i := by
  have := of_decide_eq_true h
  injection this
theorem wide_ne {n : Nat} (h1 : 1 ≤ n) (h2 : n ≤ 8) : n ≠ n % 8 + 1 := by omega
theorem sto_mono {K : Fg} {H H' : Hp} {x : Addr} {s : Str} (e : Ex H H') (h : VSto K H x s) : VSto K H' x s := by
  obtain ⟨dx, v, u, h⟩ := h
  exact ⟨dx, v, u, e _ _ h⟩
theorem ok__law_call {w : World} {K : Fg} {mg : Str → Option Value} {base : Heap} (T : Top K mg) (M_Table2 : Mkr PR w K mg base 6 (He.ga K "Table") [] (spTabInit K)) (M_Table1 : Mkr PR w K mg base 6 (He.ga K "Table") [] (fun vs H Q E => spTabInit K (vs ++ [.ref (dfAd "Table" K)]) H Q E)) (M_Layer2 : Mkr PR w K mg base 6 (He.ga K "Layer") [] (spLayInit K)) (D_Layer_empty : FnA PR w K mg base 8 ((At.cm "Layer" "empty").ad K) [] (spLayEmpty K)) (D_conflicts : Df PR w K mg base 9 "conflicts" ["by"] (spConfl K)) (D_moved : Df PR w K mg base 10 "moved" ["by"] (spMoved K)) (D_merged : Df PR w K mg base 12 "merged" ["by"] (fun vs H Q E => ∃ a rest z, vs = a :: rest ++ [z] ∧ rest.length ≤ 1 ∧ ∀ p, H p = none → spMergedI K [a, z, .ref p] (upd H p (.tup rest)) Q E)) (D_replay : Df PR w K mg base 10 "replay" ["by"] (spReplay K)) (M_Store : Mkr PR w K mg base 8 (He.ga K "Store") ["by"] (spStoInit K)) (M_Desk : Mkr PR w K mg base 10 (He.ga K "Desk") ["by"] (spDskInit K)) (D_Store_by : PrD PR w K mg base 1 (He.ga K "Store") "by" (spBy K)) (D_Store_use_rule : MtD PR w K mg base 6 (He.ga K "Store") "use_rule" (spBySet K)) (I_Layer : FnS PR w K mg base (L2.CX PR w) 1 (He.ma K (He.ga K "Layer") "__iter__") (spIter K (He.ga K "Layer") 0)) (L_Layer : FnR PR w K mg base (L2.CX PR w) 1 (He.ma K (He.ga K "Layer") "__len__") (spLen K (He.ga K "Layer") 0)) : FnA PR w K mg base 14 (He.ga K "_law_call") [] ((spCall K)) := by
  obtain ⟨_, fd, F⟩ := T.f__law_call
  refine fna_d0 F sc__law_call (fun vs H Q E h => ?_) (fun _ _ _ _ _ _ us hl => match us, hl with | [_, _, _, _, _], _ => rfl) (fun cdv A outer s H vs Q E hr h => ?_)
  · obtain ⟨door, s', s0, n, r, st, rr, rfl, hd0, hd1, hr0, rok, hn, hn8, hst, hE⟩ := h; rfl
  obtain ⟨door, s', s0, n, r, st, rr, rfl, hd0, hd1, hr0, rok, hn, hn8, hst, hE⟩ := h
  refine ⟨_, (pss_cons (ps_set (i := 5) sc__law_call.nd rfl (Or.inl rfl) (pe_mk M_Table2 (hr.mono (by decide)) (by rfl) T.g_Table passLA (pa_cons (pv 2) (pa_cons (pe_lst (pa_cons (pv 3) pa_nil)) pa_nil))))
    (pss_cons (ps_set (i := 6) sc__law_call.nd rfl (Or.inl rfl) (pe_mk M_Layer2 (hr.mono (by decide)) (by rfl) T.g_Layer passLA (pa_cons (pv 2) (pa_cons (pe_lst (pa_cons (pe_tup (pa_cons pe_int (pa_cons (pv 3) (pa_cons pe_non pa_nil)))) pa_nil)) pa_nil))))
    (pss_cut (ps_set (i := 7) sc__law_call.nd rfl (Or.inl rfl) (pe_mk M_Layer2 (hr.mono (by decide)) (by rfl) T.g_Layer passLA (pa_cons (pv 2) (pa_cons (pe_lst (pa_cons (pe_tup (pa_cons pe_int (pa_cons (pe_op op_catT (pe_tup (pa_cons (pe_op op_sub (pe_ix ix_tup (pv 3) pe_int (fun _ _ => rfl)) pe_int) pa_nil)) (pe_slice sl_tup (pv 3) (po_some pe_int) po_none)) (pa_cons pe_non pa_nil)))) pa_nil)) pa_nil))))
    (pss_cons (ps_set (i := 8) sc__law_call.nd rfl (Or.inl rfl) (pe_cm (pe_glob (v := .ref (He.ga K "Layer")) (by rfl) T.g_Layer rfl) T.cm_Layer_empty.1 T.cm_Layer_empty.2.1 D_Layer_empty (hr.mono (by decide)) (pa_cons (pe_op op_add (pe_op op_mod (pe_callTy call_int1 (by rfl) T.b_int (by decide +kernel) (pa_cons (pv 2) pa_nil)) pe_int) pe_int) pa_nil)))
    (pss_cons (ps_if (pt_cmpR op_eq (pv 0) pe_int (nomark _)) (pss_one (ps_expr (pe_dfK D_conflicts (hr.mono (by decide)) (by rfl) (fun σ => passAt tkOf σ) (pa_cons (pv 6) (pa_cons (pv 8) pa_nil)) (pk_cons (pv 1) pk_nil)))) pss_nil)
    (pss_cons (ps_if (pt_cmpR op_eq (pv 0) pe_int (nomark _)) (pss_one (ps_expr (pe_dfK D_moved (hr.mono (by decide)) (by rfl) (fun σ => passAt tkOf σ) (pa_cons (pv 6) (pa_cons (pv 8) pa_nil)) (pk_cons (pv 1) pk_nil)))) pss_nil)
    (pss_cons (ps_if (pt_cmpR op_eq (pv 0) pe_int (nomark _)) (pss_one (ps_expr (pe_dfK D_merged (hr.mono (by decide)) (by rfl) (fun σ => passAt tkOf σ) (pa_cons (pv 6) (pa_cons (pv 8) pa_nil)) (pk_cons (pv 1) pk_nil)))) pss_nil)
    (pss_cons (ps_if (pt_cmpR op_eq (pv 0) pe_int (nomark _)) (pss_one (ps_expr (pe_dfK D_replay (hr.mono (by decide)) (by rfl) (fun σ => passAt tkOf σ) (pa_cons (pv 5) (pa_cons (pv 8) pa_nil)) (pk_cons (pv 1) pk_nil)))) pss_nil)
    (pss_cons (ps_if (pt_cmpR op_eq (pv 0) pe_int (nomark _)) (pss_one (ps_expr (pe_dfK D_conflicts (hr.mono (by decide)) (by rfl) (fun σ => passAt tkOf σ) (pa_cons (pv 6) (pa_cons (pv 7) pa_nil)) (pk_cons (pv 1) pk_nil)))) pss_nil)
    (pss_cons (ps_if (pt_cmpR op_eq (pv 0) pe_int (nomark _)) (pss_one (ps_expr (pe_dfK D_moved (hr.mono (by decide)) (by rfl) (fun σ => passAt tkOf σ) (pa_cons (pv 7) (pa_cons (pv 6) pa_nil)) (pk_cons (pv 1) pk_nil)))) pss_nil)
    (pss_cons (ps_if (pt_cmpR op_eq (pv 0) pe_int (nomark _)) (pss_one (ps_expr (pe_dfK D_merged (hr.mono (by decide)) (by rfl) (fun σ => passAt tkOf σ) (pa_cons (pv 6) (pa_cons (pv 7) pa_nil)) (pk_cons (pv 1) pk_nil)))) pss_nil)
    (pss_cons (ps_if (pt_cmpR op_eq (pv 0) pe_int (nomark _)) (pss_one (ps_expr (pe_dfK D_moved (hr.mono (by decide)) (by rfl) (fun σ => passAt tkOf σ) (pa_cons (pv 6) (pa_cons (pv 6) pa_nil)) (pk_cons (pv 1) pk_nil)))) pss_nil)
    (pss_cons (ps_if (pt_cmpR op_eq (pv 0) pe_int (nomark _)) (pss_one (ps_expr (pe_dfK D_merged (hr.mono (by decide)) (by rfl) (fun σ => passAt tkOf σ) (pa_cons (pv 6) (pa_cons (pv 6) pa_nil)) (pk_cons (pv 1) pk_nil)))) pss_nil)
    (pss_cons (ps_if (pt_cmpR op_eq (pv 0) pe_int (nomark _)) (pss_one (ps_expr (pe_dfK D_replay (hr.mono (by decide)) (by rfl) (fun σ => passAt tkOf σ) (pa_cons (pe_mk M_Table1 (hr.mono (by decide)) (by rfl) T.g_Table passLA (pa_cons (pv 2) pa_nil)) (pa_cons (pv 6) pa_nil)) (pk_cons (pv 1) pk_nil)))) pss_nil)
    (pss_cons (ps_if (pt_cmpR op_eq (pv 0) pe_int (nomark _)) (pss_one (ps_ret (pe_cmpR (op_eqD hr.units) (pe_callTy (r := rListSl K (He.ga K "Layer") 0) (call_listSl rfl (iterC_of T.m_Layer_iter.1) I_Layer (lenC_of T.m_Layer_len.1) L_Layer (hr.mono (by decide))) (by rfl) T.b_list (by decide +kernel) (pa_cons (pe_dfK D_merged (hr.mono (by decide)) (by rfl) (fun σ => passAt tkOf σ) (pa_cons (pv 6) pa_nil) (pk_cons (pv 1) pk_nil)) pa_nil)) (pe_lst (pa_cons (pe_tup (pa_cons pe_int (pa_cons (pv 3) (pa_cons pe_non pa_nil)))) pa_nil)) (nomark _)))) pss_nil)
    (pss_cons (ps_if (pt_cmpR op_eq (pv 0) pe_int (nomark _)) (pss_one (ps_ret (pe_cmpR op_eq (pe_prD (pe_mkK M_Store (hr.mono (by decide)) (by rfl) T.g_Store (fun σ => passAt tkOf σ) (pa_cons (pv 5) pa_nil) (pk_cons (pv 1) pk_nil)) D_Store_by (hr.mono (by decide))) (pv 1) (nomark _)))) pss_nil)
    (pss_cons (ps_if (pt_cmpR op_eq (pv 0) pe_int (nomark _)) (pss_one (ps_ret (pe_cmpR op_eq (pe_prD (pe_fld (pe_mkK M_Desk (hr.mono (by decide)) (by rfl) T.g_Desk (fun σ => passAt tkOf σ) (pa_cons (pv 5) pa_nil) (pk_cons (pv 1) pk_nil)) rfl) D_Store_by (hr.mono (by decide))) (pv 1) (nomark _)))) pss_nil)
    (pss_cons (ps_if (pt_cmpR op_eq (pv 0) pe_int (nomark _)) (pss_one (ps_ret (pe_and (pe_cmpR op_isN (pe_mtD (pv 4) D_Store_use_rule (hr.mono (by decide)) (fun σ => passAt tkOf σ) (pa_cons (pv 1) pa_nil)) pe_non (nomark _)) (pe_one (pe_cmpR op_eq (pe_prD (pv 4) D_Store_by (hr.mono (by decide))) (pv 1) (nomark _)))))) pss_nil)
    (pss_one (ps_ret pe_non)))))))))))))))))))), ?_⟩
  have hrow : VR K H (.ref r) rr := ⟨r, rfl, hr0⟩
  have rsok : RowsOk n [rr] := ⟨fun q hq => by rw [List.mem_singleton] at hq; rw [hq]; exact rok, by simp⟩
  refine ⟨_, rfl, _, rfl, sz1, fun p1 hp1 => ⟨rfl, fun tb dtb htbn hdtb hne => ⟨tb, dtb, p1, true, [.ref r], [rr], n, rfl, fresh_of hne, ex_l (mk_en htbn hdtb) (sq_of upd_same), vrs_ex (ExN.of ((Ex.new hp1).trans (mk_en htbn hdtb))) (.cons hrow .nil), hn, by omega, rsok, (by show 1 ≤ 100000; decide), fun H1 e1 htb => ⟨rfl, ?_⟩⟩⟩⟩
  have a1 := (Ex.new (o := .lst [.ref r]) hp1).trans (ExI.new htbn hdtb e1)
  refine ⟨_, rfl, _, rfl, sz3, fun t ht => ⟨sz1, fun p2 hp2 => ⟨rfl, fun on don honn hdon hne2 => ?_⟩⟩⟩
  have f2 := Ex.new (o := .tup [.int 0, .ref r, .non]) ht
  have f3 := Ex.new (o := .lst [.ref t]) hp2
  have f4 := mk_en (C := He.ga K "Layer") honn hdon
  have a2 := (a1.trans f2).trans f3
  refine ⟨on, don, p2, true, [.ref t], [delE 0 rr], n, rfl, fresh_of hne2, ex_l f4 (sq_of upd_same), .cons ⟨t, _, _, rfl, st_of (f4 _ _ (f3 _ _ upd_same)), hrow.ex (ExN.of (a2.trans f4)), rfl⟩ .nil, hn, by omega, del_ents (by decide) rok, (by show 1 ≤ 100000; decide), fun H2 e2' hon => ⟨rfl, ?_⟩⟩
  have e2 := ExI.new honn hdon e2'
  have a3 := a2.trans e2
  have htb2 := htb.mono ((f2.trans f3).trans e2)
  obtain ⟨k0, tl, rfl⟩ : ∃ k tl, rr = k :: tl := by
    cases rr with
    | nil =>
      have : (0 : Nat) = n := rok
      omega
    | cons k tl => exact ⟨k, tl, rfl⟩
  have hk : Rwv.key ((k0 - 1) :: tl) = Rwv.key (k0 :: tl) - 1 := rfl
  have rok' : RowOk n ((k0 - 1) :: tl) := rok
  refine ⟨fun σ' H' => ∃ ot, σ' = [some (.int door), some (.str s'), some (.int (n : Int)), some (.ref r), some (.ref st), some (.ref tb), some (.ref on), some (.ref ot), none] ∧ Ex H2 H' ∧ VLay K H' (He.ga K "Layer") ot n [delE 1 ((k0 - 1) :: tl)], ?_, ?_⟩
  · have last : ∀ (v : V) (H3 : Hp), Ex H2 H3 → VR K H3 v ((k0 - 1) :: tl) → 3 ≤ sizeLine ∧ ∀ p, H3 p = none → 1 ≤ sizeLine ∧ ∀ q, upd H3 p (.tup [.int 1, v, .non]) q = none → ([] : List V).length = 0 ∧ ∀ x dx, upd (upd H3 p (.tup [.int 1, v, .non])) q (.lst [.ref p]) x = none → upd (upd H3 p (.tup [.int 1, v, .non])) q (.lst [.ref p]) dx = none → dx ≠ x →
        spLayInit K (V.ref x :: [.int (n : Int), .ref q] ++ []) (upd (upd (upd (upd H3 p (.tup [.int 1, v, .non])) q (.lst [.ref p])) dx (.own x)) x (.ins (He.ga K "Layer") dx [])) (fun v' H5 => v' = .non ∧ ∃ ot, ([some (.int door), some (.str s'), some (.int (n : Int)), some (.ref r), some (.ref st), some (.ref tb), some (.ref on), some (.ref x), none] : L2.St) = [some (.int door), some (.str s'), some (.int (n : Int)), some (.ref r), some (.ref st), some (.ref tb), some (.ref on), some (.ref ot), none] ∧ Ex H2 H5 ∧ VLay K H5 (He.ga K "Layer") ot n [delE 1 ((k0 - 1) :: tl)]) E0 := by
      intro v H3 e3 hv
      refine ⟨sz3, fun p hp => ⟨sz1, fun q hq => ?_⟩⟩
      have g1 := Ex.new (o := .tup [.int 1, v, .non]) hp
      have g2 := Ex.new (o := .lst [.ref p]) hq
      refine ⟨rfl, fun x dx hx hdx hne => ?_⟩
      have g3 := mk_en (C := He.ga K "Layer") hx hdx
      refine ⟨x, dx, q, true, [.ref p], [delE 1 ((k0 - 1) :: tl)], n, rfl, fresh_of hne, ex_l g3 (sq_of upd_same), .cons ⟨p, _, _, rfl, st_of (g3 _ _ (g2 _ _ upd_same)), hv.ex (ExN.of ((g1.trans g2).trans g3)), rfl⟩ .nil, hn, by omega, del_ents (by decide) rok', (by show 1 ≤ 100000; decide), fun H5 e5 hl => ⟨rfl, x, rfl, ?_, hl⟩⟩
      exact ((e3.trans g1).trans g2).trans (ExI.new hx hdx e5)
    refine ⟨_, rfl, _, rfl, _, _, _, _, rfl, rfl, ex_t a3 hr0, atI0 rfl, _, _, rfl, rfl, sz1, fun q hq => ?_⟩
    have g1 := Ex.new (o := .tup [.int (k0 - 1)]) hq
    refine ⟨_, rfl, 1, rfl, r, _, rfl, ex_t (a3.trans g1) hr0, cut_not _ _, fun u hu => ?_⟩
    have ec : cutV (vis (k0 :: tl)) (some 1) Option.none = vis tl := cut_tail _ _
    rw [ec]
    have g2 := Ex.new (o := .tup (vis tl)) hu
    refine ⟨q, u, _, _, rfl, rfl, st_of (g2 _ _ upd_same), st_of upd_same, by simp, ?_, fun hz => ?_, fun hz p hp => ?_⟩
    · have : (vis tl).length + 1 = n := by rw [vis_len]; exact rok
      show 1 + (vis tl).length ≤ sizeLine
      exact Nat.le_of_lt (szK (by omega))
    · have et : tl = [] := by
        cases tl with
        | nil => rfl
        | cons a b => cases hz
      subst et
      exact last _ _ (g1.trans g2) ⟨q, rfl, st_of (g2 _ _ upd_same)⟩
    · exact last _ _ ((g1.trans g2).trans (Ex.new hp)) ⟨p, rfl, st_of upd_same⟩
  rintro σ' H3 ⟨ot, rfl, e3, hot⟩
  have a4 := a3.trans e3
  refine ⟨rfl, _, rfl, .inl ⟨_, rfl, _, _, rfl, rfl, (by show (0 : Int) < 8; decide), _, _, rfl, rfl, n % 8 + 1, ?_, by omega, by omega, fun wd H4 _ e4 hwd => ?_⟩⟩
  · have e : (n : Int) % 8 + 1 = ((n % 8 + 1 : Nat) : Int) := by omega
    show [V.ref (He.ga K "Layer"), V.int ((n : Int) % 8 + 1)] = _
    rw [e]
  have a5 := a4.trans e4
  have ht := htb2.mono (e3.trans e4)
  have ho := hon.mono (e3.trans e4)
  have hot' := hot.mono e4
  have hE := hE.ex a5
  have hst' := sto_mono a5 hst
  have hrow' := hrow.ex (ExN.of a5)
  have wne := wide_ne hn hn8
  have dok0 : EntsOk n [delE 0 (k0 :: tl)] := del_ents (by decide) rok
  have dok1 : EntsOk n [delE 1 ((k0 - 1) :: tl)] := del_ents (by decide) rok'
  have nok : EntsOk (n % 8 + 1) [] := entsOk_nil
  refine ⟨_, rfl, rfl, _, rfl, ite2 (fun h => ?_) fun n0 => ?_⟩
  · have hd := is_door h
    exact ⟨_, rfl, _, rfl, _, rfl, rfl, on, wd, n, n % 8 + 1, [delE 0 (k0 :: tl)], [], s', rfl, ho, hwd, dok0, nok, hn, by omega, by show 1 < 64; decide, half_nil, confEnd_of hE (.inl ⟨wne, by omega⟩)⟩
  refine ⟨_, rfl, rfl, _, rfl, ite2 (fun h => ?_) fun n1 => ?_⟩
  · have hd := is_door h
    exact ⟨_, rfl, _, rfl, _, rfl, rfl, on, wd, n, n % 8 + 1, [delE 0 (k0 :: tl)], [], s', rfl, ho, hwd, dok0, nok, hn, by omega, by show 1 < 64; decide, half_nil, fun _ e => absurd e wne, movEnd_of hE (.inl ⟨wne, by omega⟩)⟩
  refine ⟨_, rfl, rfl, _, rfl, ite2 (fun h => ?_) fun n2 => ?_⟩
  · have hd := is_door h
    refine ⟨_, rfl, _, rfl, _, rfl, rfl, .ref on, [.ref wd], .str s', rfl, by show 1 ≤ 1; decide, fun p hp => ?_⟩
    have g := Ex.new (o := .tup [.ref wd]) hp
    exact ⟨on, p, [.ref wd], s', rfl, st_of upd_same, (hE.ex g).ir, fun _ => .inr ⟨wd, rfl, wd, on, n % 8 + 1, n, [], [delE 0 (k0 :: tl)], s', rfl, hwd.mono g, ho.mono g, nok, dok0, by omega, hn, by show 1 < 64; decide, half_nil', fun _ e => absurd e.symm wne, movEnd_of (hE.ex g) (.inl ⟨Ne.symm wne, by omega⟩)⟩⟩
  refine ⟨_, rfl, rfl, _, rfl, ite2 (fun h => ?_) fun n3 => ?_⟩
  · have hd := is_door h
    exact ⟨_, rfl, _, rfl, _, rfl, rfl, tb, wd, n, n % 8 + 1, [k0 :: tl], [], s', rfl, ht, hwd, rsok, nok, hn, by omega, by show 1 ≤ 1000; decide, by show 0 ≤ 1000; decide, fun _ e => absurd e wne, hE.ir, fun g _ d H' hd' e => hE.dw g (by omega) d H' hd' e, fun _ e => absurd e wne⟩
  refine ⟨_, rfl, rfl, _, rfl, ite2 (fun h => ?_) fun n4 => ?_⟩
  · have hd := is_door h
    exact ⟨_, rfl, _, rfl, _, rfl, rfl, on, ot, n, n, [delE 0 (k0 :: tl)], [delE 1 ((k0 - 1) :: tl)], s', rfl, ho, hot', dok0, dok1, hn, hn, by show 2 < 64; decide, half_one, confEnd_of hE (.inr ⟨rfl, by omega, by omega, no_base1 hk⟩)⟩
  refine ⟨_, rfl, rfl, _, rfl, ite2 (fun h => ?_) fun n5 => ?_⟩
  · have hd := is_door h
    exact ⟨_, rfl, _, rfl, _, rfl, rfl, ot, on, n, n, [delE 1 ((k0 - 1) :: tl)], [delE 0 (k0 :: tl)], s', rfl, hot', ho, dok1, dok0, hn, hn, by show 2 < 64; decide, half_one, (fun _ _ hl => by rw [no_base2 hk] at hl; cases hl), movEnd_of hE (.inr (.inl ⟨rfl, by omega, by omega, no_base2 hk⟩))⟩
  refine ⟨_, rfl, rfl, _, rfl, ite2 (fun h => ?_) fun n6 => ?_⟩
  · have hd := is_door h
    refine ⟨_, rfl, _, rfl, _, rfl, rfl, .ref on, [.ref ot], .str s', rfl, by show 1 ≤ 1; decide, fun p hp => ?_⟩
    have g := Ex.new (o := .tup [.ref ot]) hp
    exact ⟨on, p, [.ref ot], s', rfl, st_of upd_same, (hE.ex g).ir, fun _ => .inr ⟨ot, rfl, ot, on, n, n, [delE 1 ((k0 - 1) :: tl)], [delE 0 (k0 :: tl)], s', rfl, hot'.mono g, ho.mono g, dok1, dok0, hn, hn, by show 2 < 64; decide, half_one, (fun _ _ hl => by rw [no_base2 hk] at hl; cases hl), movEnd_of (hE.ex g) (.inr (.inl ⟨rfl, by omega, by omega, no_base2 hk⟩))⟩⟩
  refine ⟨_, rfl, rfl, _, rfl, ite2 (fun h => ?_) fun n7 => ?_⟩
  · have hd := is_door h
    exact ⟨_, rfl, _, rfl, _, rfl, rfl, on, on, n, n, [delE 0 (k0 :: tl)], [delE 0 (k0 :: tl)], s', rfl, ho, ho, dok0, dok0, hn, hn, by show 2 < 64; decide, half_one, fun _ _ _ => same_conf _ _, movEnd_of hE (.inr (.inr ⟨rfl, by omega, by omega, same_base _⟩))⟩
  refine ⟨_, rfl, rfl, _, rfl, ite2 (fun h => ?_) fun n8 => ?_⟩
  · have hd := is_door h
    refine ⟨_, rfl, _, rfl, _, rfl, rfl, .ref on, [.ref on], .str s', rfl, by show 1 ≤ 1; decide, fun p hp => ?_⟩
    have g := Ex.new (o := .tup [.ref on]) hp
    exact ⟨on, p, [.ref on], s', rfl, st_of upd_same, (hE.ex g).ir, fun _ => .inr ⟨on, rfl, on, on, n, n, [delE 0 (k0 :: tl)], [delE 0 (k0 :: tl)], s', rfl, ho.mono g, ho.mono g, dok0, dok0, hn, hn, by show 2 < 64; decide, half_one, fun _ _ _ => same_conf _ _, movEnd_of (hE.ex g) (.inr (.inr ⟨rfl, by omega, by omega, same_base _⟩))⟩⟩
  refine ⟨_, rfl, rfl, _, rfl, ite2 (fun h => ?_) fun n9 => ?_⟩
  · have hd := is_door h
    refine ⟨_, rfl, rfl, fun x dx hx hdx hne => ⟨x, dx, dfAd "Table" K, false, [], [], n, rfl, fresh_of hne, T.e_Table _, .nil, hn, by omega, ⟨fun _ h => by simp at h, .nil⟩, by show 0 ≤ 100000; decide, fun H5 e5 ht0 => ⟨rfl, ?_⟩⟩⟩
    have g := ExI.new hx hdx e5
    have hE2 := hE.ex g
    exact ⟨_, rfl, _, rfl, rfl, x, on, n, n, [], [delE 0 (k0 :: tl)], s', rfl, ht0, ho.mono g, ⟨fun _ h => by simp at h, .nil⟩, dok0, hn, hn, by show 0 ≤ 1000; decide, by show 1 ≤ 1000; decide, fun _ _ => ⟨rfl, by simp, fun e he => by rw [List.mem_singleton] at he; rw [he]; exact fun z => nomatch z⟩, hE2.ir, fun _ e => absurd rfl e, fun g' _ d H' hd' e => hE2.cf g' (by omega) (by omega) d H' hd' e⟩
  refine ⟨_, rfl, rfl, _, rfl, ite2 (fun h => ?_) fun n10 => ?_⟩
  · have hd := is_door h
    refine ⟨_, rfl, _, rfl, rfl, .ref on, [], .str s', rfl, by show 0 ≤ 1; decide, fun p hp => ?_⟩
    have g := Ex.new (o := .tup []) hp
    refine ⟨on, p, [], s', rfl, st_of upd_same, (hE.ex g).ir, fun gd => .inl ⟨rfl, ?_⟩⟩
    obtain ⟨dx, le, lk, us, hsl, hle, hv, _⟩ := ho.mono g
    have lu := hv.len
    refine ⟨on, dx, _, le, us, rfl, hsl, rfl, hle, szK (by rw [lu]; show 1 ≤ 100000; decide), fun q hq => ?_⟩
    have g2 := Ex.new (o := .lst us) hq
    refine ⟨_, rfl, sz3, fun t2 ht2 => ⟨sz1, fun l hl => ?_⟩⟩
    have g3 := Ex.new (o := .tup [.int 0, .ref r, .non]) ht2
    have g4 := Ex.new (o := .lst [.ref t2]) hl
    have gg := ((g.trans g2).trans g3).trans g4
    have hv' := ves_ex (ExN.of ((g2.trans g3).trans g4)) hv
    cases hv' with
    | cons hve hnil =>
      cases hnil
      obtain ⟨a1, x1, y1, rfl, hs1, hx1, hy1⟩ := hve
      refine ⟨.list [entD (k0 :: tl)], .list [entD (k0 :: tl)], .lst (sq_of (g4 _ _ (g3 _ _ upd_same))) (.cons (.tup hs1 (.cons (.int 0) (.cons hx1.dp (.cons hy1.dp .nil)))) .nil), .lst (sq_of upd_same) (.cons (.tup (st_of (g4 _ _ upd_same)) (.cons (.int 0) (.cons (VO.dp (r := some (k0 :: tl)) (hrow'.ex (ExN.of gg))) (.cons .non .nil)))) .nil), entD_shaped _, entD_shaped _, ?_⟩
      rw [entD_eq]
      exact hE.tr gd (by omega) (by omega) _ gg
  refine ⟨_, rfl, rfl, _, rfl, ite2 (fun h => ?_) fun n11 => ?_⟩
  · have hd := is_door h
    refine ⟨_, rfl, _, rfl, rfl, fun x dx hx hdx hne => ?_⟩
    have g := mk_en (C := He.ga K "Store") hx hdx
    refine ⟨x, dx, tb, n, [k0 :: tl], s', rfl, fresh_of hne, ht.mono g, (hE.ex g).ir, fun gd H5 e5 hs => ⟨rfl, ?_⟩⟩
    obtain ⟨dy, v, u, hy⟩ := id hs
    exact ⟨x, dy, _, rfl, hy, x, s', rfl, hs, _, rfl, eq_true_str (hE.tr gd (by omega) (by omega) _ (ExX.new hx hdx e5))⟩
  refine ⟨_, rfl, rfl, _, rfl, ite2 (fun h => ?_) fun n12 => ?_⟩
  · have hd := is_door h
    refine ⟨_, rfl, _, rfl, rfl, fun x dx hx hdx hne => ?_⟩
    have g := mk_en (C := He.ga K "Desk") hx hdx
    refine ⟨x, dx, tb, n, [k0 :: tl], s', rfl, fresh_of hne, ht.mono g, (hE.ex g).ir, fun gd H5 e5 hs => ⟨rfl, ?_⟩⟩
    obtain ⟨dy, y, u, hy, hs2⟩ := id hs
    obtain ⟨dz, v, u2, hz⟩ := id hs2
    refine ⟨x, _, dy, _, _, rfl, hy, T.c_Desk, T.n_Desk_store, rfl, y, dz, _, rfl, hz, y, s', rfl, hs2, _, rfl, ?_⟩
    exact eq_true_str (hE.tr gd (by omega) (by omega) _ (ExX.new hx hdx e5))
  refine ⟨_, rfl, rfl, _, rfl, ite2 (fun h => ?_) fun n13 => ?_⟩
  · have hd := is_door h
    obtain ⟨dz, v, u2, hz⟩ := id hst'
    refine ⟨_, rfl, st, dz, _, rfl, hz, rfl, _, rfl, st, s0, s', rfl, hst', hE.ir, fun gd H5 e5 hs => ?_⟩
    obtain ⟨dy, v', u', hy⟩ := id hs
    refine ⟨rfl, true, rfl, ?_⟩
    refine iteT ⟨_, rfl, st, dy, _, rfl, hy, st, s', rfl, hs, _, rfl, ?_⟩
    exact eq_true_str (hE.us gd (by omega) _ e5 hs)
  exfalso
  have m0 := not_door n0
  have m1 := not_door n1
  have m2 := not_door n2
  have m3 := not_door n3
  have m4 := not_door n4
  have m5 := not_door n5
  have m6 := not_door n6
  have m7 := not_door n7
  have m8 := not_door n8
  have m9 := not_door n9
  have m10 := not_door n10
  have m11 := not_door n11
  have m12 := not_door n12
  have m13 := not_door n13
  omega

end Kx

end

section
set_option Elab.async false
set_option linter.all false
set_option maxRecDepth 100000
set_option maxHeartbeats 4000000
namespace Kx
open PySem PySem.Spec PyProof.Rows L2 Evl Pl
/-! ### what a call at a door tells -/
def dueS (door : Int) : Str := if door ≤ 3 then "width" else if door ≤ 6 then "base" else if door ≤ 9 then "conflict" else "answer"
structure ToldEnd (K : Fg) (H : Hp) (door : Int) (s s0 : Str) (st : Addr) (Q : VK) : Prop where
  bad : ¬ Good s → ∀ a H', Ex H H' → H' a = some (.lst [.str "rule", .str s]) → Q (.ref a) H'
  ok : Good s → ∀ a H', ExX st H H' → VSto K H' st (if door = 13 then s else s0) → H' a = some (.lst [.str (dueS door), .bl true]) → Q (.ref a) H'
def spTold (K : Fg) : Sp := fun vs H Q _ => ∃ (door : Int) (s s0 : Str) (n : Nat) (r st : Addr) (rr : Rwv), vs = [.int door, .str s, .int (n : Int), .ref r, .ref st] ∧ 0 ≤ door ∧ door ≤ 13 ∧ SqT K H r (vis rr) ∧ RowOk n rr ∧ 1 ≤ n ∧ n ≤ 8 ∧ VSto K H st s0 ∧ ToldEnd K H door s s0 st Q
theorem exX_of {x : Addr} {H H' : Hp} (e : Ex H H') : ExX x H H' := fun b o _ h => e b o h
theorem wa_no {K : Fg} {W : WX} {D : Ends} {c : Value} {i : Option Nat} {ts : Addr → Value → Option Addr → TS} {l : List Hd} {cls : Value} {d : Option Addr} {σ : L2.St} {H : Hp} (h : PySem.W.exmOne K cls c = some false) (k : wAny K W D l cls d σ H) : wAny K W D ((c, i, ts) :: l) cls d σ H := by
  cases i with
  | none => exact ⟨false, h, fun z => Bool.noConfusion z, fun _ => k⟩
  | some i => exact ⟨false, h, fun z => Bool.noConfusion z, fun _ => k⟩
theorem wa_yes {K : Fg} {W : WX} {D : Ends} {c : Value} {ts : Addr → Value → Option Addr → TS} {l : List Hd} {cls : Value} {d : Option Addr} {σ : L2.St} {H : Hp} (h : PySem.W.exmOne K cls c = some true) (k : ∀ a, H a = none → ts a cls d D σ H) : wAny K W D ((c, none, ts) :: l) cls d σ H :=
  ⟨true, h, fun _ => k, fun z => Bool.noConfusion z⟩
theorem ok__law_told {w : World} {K : Fg} {mg : Str → Option Value} {base : Heap} (T : Top K mg) (D__law_call : Df PR w K mg base 14 "_law_call" [] (spCall K)) : FnA PR w K mg base 15 (He.ga K "_law_told") [] ((spTold K)) := by
  obtain ⟨_, fd, F⟩ := T.f__law_told
  refine fna_d0 F sc__law_told (fun vs H Q E h => ?_) (fun _ _ _ _ _ _ us hl => match us, hl with | [_, _, _, _, _], _ => rfl) (fun cdv A outer s H vs Q E hr h => ?_)
  · obtain ⟨door, s', s0, n, r, st, rr, rfl, hd0, hd1, hr0, rok, hn, hn8, hst, hE⟩ := h; rfl
  obtain ⟨door, s', s0, n, r, st, rr, rfl, hd0, hd1, hr0, rok, hn, hn8, hst, hE⟩ := h
  refine ⟨_, (pss_cons (ps_set (i := 5) sc__law_told.nd rfl (Or.inl rfl) (pe_lst (pa_cons pe_str (pa_cons pe_non pa_nil))))
    (pss_cons (ps_tryA rfl rfl sc__law_told.nd tkOf (fun W pn xe tk po => (pss_one (ps_set (i := 5) sc__law_told.nd rfl (Or.inl rfl) (pe_lst (pa_cons pe_str (pa_cons (pe_df D__law_call (hr.mono (by decide)) (by rfl) (fun σ => passAt tk σ) (pa_cons (pv 0) (pa_cons (pv 1) (pa_cons (pv 2) (pa_cons (pv 3) (pa_cons (pv 4) pa_nil)))))) pa_nil)))))) (HdsA.as_ (i := 6) rfl rfl ⟨rfl, by decide, .inl T.g_InvalidRule⟩ (fun a oe cls d pn hz hf => (pss_one (ps_set (i := 5) sc__law_told.nd rfl (Or.inl rfl) (pe_lst (pa_cons pe_str (pa_cons (pe_xf T.xf_InvalidRule T.nf_InvalidRule_rule hz hf (pv 6)) pa_nil)))))) (HdsA.cons ⟨rfl, by decide, .inl T.g_DifferentWidth⟩ (fun a oe cls d pn hz hf => (pss_one (ps_set (i := 5) sc__law_told.nd rfl (Or.inl rfl) (pe_lst (pa_cons pe_str (pa_cons pe_bl pa_nil)))))) (HdsA.cons ⟨rfl, by decide, .inl T.g_NoCommonBase⟩ (fun a oe cls d pn hz hf => (pss_one (ps_set (i := 5) sc__law_told.nd rfl (Or.inl rfl) (pe_lst (pa_cons pe_str (pa_cons pe_bl pa_nil)))))) (HdsA.cons ⟨rfl, by decide, .inl T.g_Conflict⟩ (fun a oe cls d pn hz hf => (pss_one (ps_set (i := 5) sc__law_told.nd rfl (Or.inl rfl) (pe_lst (pa_cons pe_str (pa_cons pe_bl pa_nil)))))) HdsA.nil)))))
    (pss_one (ps_ret (pv 5))))), ?_⟩
  refine ⟨sz2, fun p0 hp0 => ?_⟩
  have f0 := Ex.new (o := .lst [.str "none", .non]) hp0
  have ht := sto_mono f0 hst
  refine ⟨_, rfl, _, rfl, _, rfl, _, rfl, _, rfl, door, s', s0, n, r, st, rr, rfl, hd0, hd1, ex_t f0 hr0, rok, hn, hn8, ht, ?_⟩
  have fin : ∀ H' (u : Str), Good s' → dueS door = u → Ex (upd H p0 (.lst [.str "none", .non])) H' → door ≠ 13 → ∀ p, H' p = none → Q (.ref p) (upd H' p (.lst [.str u, .bl true])) := fun H' u g hu e hn p hp => by
    have e2 := (f0.trans e).trans (Ex.new (o := .lst [.str u, .bl true]) hp)
    refine hE.ok g _ _ (exX_of e2) ?_ ?_
    · rw [if_neg hn]
      exact sto_mono e2 hst
    · rw [hu]
      exact upd_same
  refine ⟨fun g d H' hd e hd' => ?_, fun g hc d H' hd e => ?_, fun g h1 h2 H' e => ?_, fun g h1 h2 d H' hd e => ?_, fun g h1 h2 H' e => ?_, fun g hc H' e hs => ?_⟩
  · refine ⟨true, T.ex_InvalidRule_InvalidRule, fun _ a ha => ?_, fun z => Bool.noConfusion z⟩
    refine ⟨_, rfl, rfl, rfl, d, _, _, rfl, hd', rfl, sz2, fun p hp => ⟨_, rfl, ?_⟩⟩
    exact hE.bad g _ _ ((f0.trans e).trans (Ex.new hp)) upd_same
  · refine wa_no T.ex_DifferentWidth_InvalidRule (wa_yes T.ex_DifferentWidth_DifferentWidth fun a ha => ?_)
    refine ⟨sz2, fun p hp => ⟨_, rfl, fin _ _ g ?_ e (by omega) p hp⟩⟩
    exact if_pos hc
  · refine wa_no T.ex_NoCommonBase_InvalidRule (wa_no T.ex_NoCommonBase_DifferentWidth (wa_yes T.ex_NoCommonBase_NoCommonBase fun a ha => ?_))
    refine ⟨sz2, fun p hp => ⟨_, rfl, fin _ _ g ?_ e (by omega) p hp⟩⟩
    rw [dueS, if_neg (by omega), if_pos h2]
  · refine wa_no T.ex_Conflict_InvalidRule (wa_no T.ex_Conflict_DifferentWidth (wa_no T.ex_Conflict_NoCommonBase (wa_yes T.ex_Conflict_Conflict fun a ha => ?_)))
    refine ⟨sz2, fun p hp => ⟨_, rfl, fin _ _ g ?_ e (by omega) p hp⟩⟩
    rw [dueS, if_neg (by omega), if_neg (by omega), if_pos h2]
  · refine ⟨sz2, fun p hp => ⟨_, rfl, fin _ _ g ?_ e (by omega) p hp⟩⟩
    rw [dueS, if_neg (by omega), if_neg (by omega), if_neg (by omega)]
  · refine ⟨sz2, fun p hp => ⟨_, rfl, ?_⟩⟩
    have e2 := (ExX.ex ((exX_of (x := st) f0).trans e) (Ex.new (o := .lst [.str "answer", .bl true]) hp))
    refine hE.ok g _ _ e2 ?_ ?_
    · rw [if_pos hc]
      exact sto_mono (Ex.new hp) hs
    · have : dueS door = "answer" := by rw [dueS, if_neg (by omega), if_neg (by omega), if_neg (by omega)]
      rw [this]
      exact upd_same

end Kx

end

section
set_option Elab.async false
set_option linter.all false
set_option maxRecDepth 100000
set_option maxHeartbeats 4000000
namespace Kx
open PySem PySem.Spec PyProof.Rows L2 Evl Pl
/-! ### all the doors -/
def spDoors (K : Fg) : Sp := fun vs H Q _ => ∃ (s s0 : Str) (n : Nat) (r st : Addr) (rr : Rwv), vs = [.str s, .int (n : Int), .ref r, .ref st] ∧ SqT K H r (vis rr) ∧ RowOk n rr ∧ 1 ≤ n ∧ n ≤ 8 ∧ VSto K H st s0 ∧ ∀ H' s1, ExX st H H' → VSto K H' st s1 → Q (.bl true) H'
theorem or_eq {s a b : Str} {i : Nat} {σ : L2.St} {H : Hp} {Q : VK} (hs : σ[i]? = some (some (.str s))) (q : ∀ g : Bool, (g = true ↔ s = a ∨ s = b) → Q (.bl g) H) :
    tOrV (tOp rEq (tVar i) (tC (.str a))) (tOp rEq (tVar i) (tC (.str b))) σ H Q := by
  refine ⟨_, hs, rfl, _, rfl, ?_⟩
  by_cases h : s = a
  · refine ifT (decide_eq_true (by rw [h])) (q true ⟨fun _ => .inl h, fun _ => rfl⟩)
  · refine ifF (decide_eq_false fun z => h (by injection z)) ⟨_, hs, rfl, q _ ?_⟩
    constructor
    · intro z
      refine .inr ?_
      have := of_decide_eq_true z
      injection this
    · rintro (z | z)
      · exact absurd z h
      · exact decide_eq_true (by rw [z])
def dueL : List V := [.str "width", .str "width", .str "width", .str "width", .str "base", .str "base", .str "base", .str "conflict", .str "conflict", .str "conflict"] ++ [.str "answer", .str "answer", .str "answer", .str "answer"]
theorem due_at : ∀ i : Nat, i < 14 → dueL[i]? = some (.str (dueS (i : Int)))
  | 0, _ => rfl | 1, _ => rfl | 2, _ => rfl | 3, _ => rfl | 4, _ => rfl | 5, _ => rfl | 6, _ => rfl | 7, _ => rfl | 8, _ => rfl | 9, _ => rfl | 10, _ => rfl | 11, _ => rfl | 12, _ => rfl | 13, _ => rfl
  | n + 14, h => absurd h (by omega)
def toldD (u : Str) : PyData := .list [.str u, .bool true]
theorem toldD_eqv (u : Str) : PyData.eqv (toldD u) (toldD u) = true := by
  simp [toldD, PyData.eqv, PyData.eqvAll]
theorem due_ok (i : Int) : PyData.strOk (dueS i) = true := by
  unfold dueS
  split
  · decide +kernel
  split
  · decide +kernel
  split
  · decide +kernel
  · decide +kernel
theorem toldD_shaped (u : Str) (h : PyData.strOk u = true) : SeqAt.shaped (toldD u) = true := by
  show (PyData.canLay0 (toldD u) && decide (PyData.depth (toldD u) ≤ 64)) = true
  rw [Bool.and_eq_true]
  refine ⟨?_, decide_eq_true ?_⟩
  · simp [toldD, PyData.canLay0, PyData.canLayAll0, h]
  · simp [toldD, PyData.depth, PyData.depthAll]
theorem kit_ss {K : Fg} : PySem.W.kitOne K (.type "str") (.type "str") = some true := kit_ty (by decide +kernel)
theorem tyS {K : Fg} {H : Hp} {x : Str} : TyX K H (.str x) (.type "str") := .base (.str _)
theorem ok__law_doors {w : World} {K : Fg} {mg : Str → Option Value} {base : Heap} (T : Top K mg) (D__law_told : Df PR w K mg base 15 "_law_told" [] (spTold K)) (D_Store_by : PrD PR w K mg base 1 (He.ga K "Store") "by" (spBy K)) : FnA PR w K mg base 16 (He.ga K "_law_doors") [] ((spDoors K)) := by
  obtain ⟨_, fd, F⟩ := T.f__law_doors
  refine fna_d0 F sc__law_doors (fun vs H Q E h => ?_) (fun _ _ _ _ _ _ us hl => match us, hl with | [_, _, _, _], _ => rfl) (fun cdv A outer s H vs Q E hr h => ?_)
  · obtain ⟨s', s0, n, r, st, rr, rfl, hr0, rok, hn, hn8, hst, hQ⟩ := h; rfl
  obtain ⟨s', s0, n, r, st, rr, rfl, hr0, rok, hn, hn8, hst, hQ⟩ := h
  refine ⟨_, (pss_cons (ps_set (i := 4) sc__law_doors.nd rfl (Or.inl rfl) (pe_or (pe_cmpR op_eq (pv 0) pe_str (nomark _)) (pe_one (pe_cmpR op_eq (pv 0) pe_str (nomark _)))))
    (pss_cons (ps_set (i := 5) sc__law_doors.nd rfl (Or.inl rfl) (pe_lst (pa_cons pe_str (pa_cons pe_str (pa_cons pe_str (pa_cons pe_str (pa_cons pe_str (pa_cons pe_str (pa_cons pe_str (pa_cons pe_str (pa_cons pe_str (pa_cons pe_str pa_nil))))))))))))
    (pss_cons (ps_set (i := 5) sc__law_doors.nd rfl (Or.inl rfl) (pe_op op_cat (pv 5) (pe_lst (pa_cons pe_str (pa_cons pe_str (pa_cons pe_str (pa_cons pe_str pa_nil)))))))
    (pss_cons (ps_for poOf rfl (pi_range1 rfl T.b_range (pa_cons pe_int pa_nil)) (pg_name (i := 6) sc__law_doors.nd rfl (Or.inl rfl)) (pss_cons (ps_set (i := 7) sc__law_doors.nd rfl (Or.inl rfl) (pe_prD (pv 3) D_Store_by (hr.mono (by decide))))
    (pss_cons (ps_set (i := 8) sc__law_doors.nd rfl (Or.inl rfl) (pe_df D__law_told (hr.mono (by decide)) (by rfl) passLA (pa_cons (pv 6) (pa_cons (pv 0) (pa_cons (pv 1) (pa_cons (pv 2) (pa_cons (pv 3) pa_nil)))))))
    (pss_cons (ps_if (PW.pt (pw_and (pt_val (pv 4)) (pw_and1 (pt_cmpR (op_neD hr.units) (pv 8) (pe_lst (pa_cons (pe_ix ix_list (pv 5) (pv 6) (fun _ _ => rfl)) (pa_cons pe_bl pa_nil))) (nomark _))))) (pss_one (ps_ret pe_bl)) pss_nil)
    (pss_cons (ps_if (PW.pt (pw_and (pt_not (pt_val (pv 4))) (pw_and1 (PW.pt (pw_or (pt_cmpR op_ne (pe_ix ix_list (pv 8) pe_int (fun _ _ => rfl)) pe_str (nomark _)) (pw_or (pt_not (pt_val (pe_callB call_isi (by rfl) T.b_isinstance (by decide +kernel) (pa_cons (pe_ix ix_list (pv 8) pe_int (fun _ _ => rfl)) (pa_cons (pe_bltn (v := .ty "str") (u := .type "str") (by rfl) T.b_str (by decide +kernel) rfl) pa_nil))))) (pw_or1 (pt_cmpR op_ne (pe_ix ix_list (pv 8) pe_int (fun _ _ => rfl)) (pv 0) (nomark _))))))))) (pss_one (ps_ret pe_bl)) pss_nil)
    (pss_one (ps_if (PW.pt (pw_and (pt_cmpR op_ne (pe_prD (pv 3) D_Store_by (hr.mono (by decide))) (pv 7) (nomark _)) (pw_and1 (PW.pt (pw_or (pt_cmpR op_ne (pv 6) pe_int (nomark _)) (pw_or1 (pt_not (pt_val (pv 4))))))))) (pss_one (ps_ret pe_bl)) pss_nil)))))))
    (pss_one (ps_ret pe_bl)))))), ?_⟩
  have szz : ∀ n : Nat, n ≤ 100 → n ≤ sizeLine := fun n h => Nat.le_of_lt (szK (by omega))
  refine or_eq rfl fun g hg => ?_
  refine ⟨szz 10 (by decide), fun p1 hp1 => ⟨_, rfl, szz 4 (by decide), fun p2 hp2 => ?_⟩⟩
  have f1 := Ex.new (o := .lst [.str "width", .str "width", .str "width", .str "width", .str "base", .str "base", .str "base", .str "conflict", .str "conflict", .str "conflict"]) hp1
  have f2 := Ex.new (o := .lst [.str "answer", .str "answer", .str "answer", .str "answer"]) hp2
  refine ⟨p1, p2, _, _, rfl, rfl, f2 _ _ upd_same, upd_same, szz 14 (by decide), fun du hdu => ?_⟩
  have f3 := Ex.new (o := .lst dueL) hdu
  have f := (f1.trans f2).trans f3
  have hst2 := sto_mono f hst
  refine ⟨14, rfl, by decide, by decide, for_range (lo := 0) (n := 14) (fun _ σ' H' => ∃ s1 o6 o7 o8, σ' = [some (.str s'), some (.int (n : Int)), some (.ref r), some (.ref st), some (.bl g), some (.ref du), o6, o7, o8] ∧ ExX st H H' ∧ H' du = some (.lst dueL) ∧ VSto K H' st s1) ⟨s0, none, none, none, rfl, exX_of f, upd_same, hst2⟩ ?_ ?_⟩
  · rintro i σ' H3 hi ⟨s1, o6, o7, o8, rfl, e3, hdu3, hs1⟩
    rw [Int.zero_add]
    have hr3 : SqT K H3 r (vis rr) := by
      obtain ⟨dx, v, u, h⟩ := hst
      exact exn_t (ExX.exN h e3) hr0
    have nds : du ≠ st := fun z => by
      obtain ⟨dx, v, u, h⟩ := hs1
      rw [z, h] at hdu3
      cases hdu3
    obtain ⟨dy, v1, u1, hy⟩ := id hs1
    refine ⟨_, rfl, st, dy, _, rfl, hy, st, s1, rfl, hs1, ?_⟩
    refine ⟨_, rfl, _, rfl, _, rfl, _, rfl, _, rfl, (i : Int), s', s1, n, r, st, rr, rfl, by omega, by omega, hr3, rok, hn, hn8, hs1, ?_⟩
    constructor
    · intro gd a H4 e4 ha
      have hgf : g = false := by
        cases g with
        | false => rfl
        | true => exact absurd (hg.mp rfl) gd
      subst hgf
      have hs4 := sto_mono e4 hs1
      obtain ⟨dz, v2, u2, hz⟩ := id hs4
      refine ⟨_, rfl, false, rfl, ?_⟩
      refine ⟨_, rfl, false, rfl, ?_⟩
      refine ⟨_, rfl, a, _, 0, _, rfl, rfl, sq_of ha, atI0 rfl, rfl, _, rfl, ?_⟩
      refine iteNS rfl ?_
      refine ⟨_, rfl, a, _, 1, _, rfl, rfl, sq_of ha, atI1 rfl, _, _, _, _, _, rfl, .ty _, tyS, kit_ss, _, rfl, ?_⟩
      refine ⟨_, rfl, a, _, 1, _, rfl, rfl, sq_of ha, atI1 rfl, _, rfl, rfl, _, rfl, ?_⟩
      refine iteNS rfl ?_
      refine ⟨_, rfl, st, dz, _, rfl, hz, st, s1, rfl, hs4, _, rfl, rfl, _, rfl, ?_⟩
      refine iteNS rfl ?_
      exact ⟨s1, _, _, _, rfl, e3.ex e4, e4 _ _ hdu3, hs4⟩
    · intro gd a H4 e4 hs4 ha
      have hgt : g = true := hg.mpr gd
      subst hgt
      have hdu4 : H4 du = some (.lst dueL) := e4 _ _ nds hdu3
      obtain ⟨dz, v2, u2, hz⟩ := id hs4
      refine ⟨_, rfl, true, rfl, ?_⟩
      refine ⟨_, rfl, _, rfl, _, rfl, du, _, (i : Int), _, rfl, rfl, sq_of hdu4, atI_int (by omega) (due_at i hi), sz2, fun q hq => ?_⟩
      have f5 := Ex.new (o := .lst [.str (dueS (i : Int)), .bl true]) hq
      refine ⟨toldD (dueS (i : Int)), toldD (dueS (i : Int)), .lst (sq_of (f5 _ _ ha)) (.cons (.str _) (.cons (.bl _) .nil)), .lst (sq_of upd_same) (.cons (.str _) (.cons (.bl _) .nil)), toldD_shaped _ (due_ok _), toldD_shaped _ (due_ok _), _, rfl, ?_⟩
      rw [toldD_eqv]
      refine ⟨_, rfl, true, rfl, ?_⟩
      have hs5 := sto_mono f5 hs4
      refine ⟨_, rfl, st, dz, _, rfl, f5 _ _ hz, st, _, rfl, hs5, _, rfl, rfl, _, rfl, ?_⟩
      have e5 : ExX st H (upd H4 q (.lst [.str (dueS (i : Int)), .bl true])) := (e3.trans e4).ex f5
      have hdu5 := f5 _ _ hdu4
      by_cases hd : (i : Int) = 13
      · rw [if_pos hd]
        rw [if_pos hd] at hs5
        refine ite2 (fun hne => ?_) fun _ => ?_
        · refine ⟨_, rfl, rfl, _, rfl, ?_⟩
          refine iteNS (by rw [hd]) ?_
          exact ⟨_, rfl, true, rfl, s', _, _, _, rfl, e5, hdu5, hs5⟩
        · exact ⟨s', _, _, _, rfl, e5, hdu5, hs5⟩
      · rw [if_neg hd]
        rw [if_neg hd] at hs5
        refine iteNS rfl ?_
        exact ⟨s1, _, _, _, rfl, e5, hdu5, hs5⟩
  · rintro σ' H3 ⟨s1, o6, o7, o8, rfl, e3, _, hs1⟩
    exact hQ H3 s1 e3 hs1

end Kx

end

section
set_option Elab.async false
set_option linter.all false
set_option maxRecDepth 100000
set_option maxHeartbeats 4000000
namespace Kx
open PySem PySem.Spec PyProof.Rows L2 Evl Pl
/-! ### the law -/
def spLaw (K : Fg) : Sp := fun vs H Q _ => ∃ (a : Addr) (ns : List Int), vs = [.ref a] ∧ SqL K H a (vis ns) ∧ ns.length ≤ 63 ∧ ∀ H', Q (.bl true) H'
theorem keep_ {P : Prop} {H H' : Hp} {a b : Addr} {o : HO} (e : ExX b H H') (ha : H a = some o ∨ P) (n : a ≠ b ∨ P) : H' a = some o ∨ P := by
  rcases ha with h | h
  · rcases n with n | n
    · exact .inl (e _ _ n h)
    · exact .inr n
  · exact .inr h
theorem keepE {P : Prop} {H H' : Hp} {a : Addr} {o : HO} (e : Ex H H') (ha : H a = some o ∨ P) : H' a = some o ∨ P := ha.imp (e _ _) id
theorem apart {P : Prop} {H : Hp} {a b : Addr} {o : HO} (ha : H a = some o ∨ P) (hb : H b = none) : a ≠ b ∨ P := ha.imp (fun h => ne_of_none h hb) id
theorem exN_l {b : Addr} {H H' : Hp} {xs : List V} (h : H b = some (.lst xs)) (e : ExX b H H') : ExN H H' := fun c o hb n => e c o (fun z => by
  rw [z, h] at hb
  rw [← Option.some.inj hb] at n
  rcases n with ⟨_, h⟩ | ⟨_, _, h⟩ <;> cases h) hb
theorem Box.exx {K : Fg} {H H' : Hp} {a b x : Addr} {ns : List Int} (h : Box K H a b ns) (na : a ≠ x ∨ ∀ H, SqL K H a (vis ns)) (nb : b ≠ x) (e : ExX x H H') : Box K H' a b ns := by
  obtain ⟨ne, hs, hl, l, t, hb, h0, h1⟩ := h
  exact ⟨ne, ExX.la na e hs, hl, l, t, e _ _ nb hb, h0, h1⟩
theorem walk_law {w : World} {K : Fg} {mg : Str → Option Value} {base : Heap} (T : Top K mg) (D__law_width : Df PR w K mg base 2 "_law_width" [] (spWidth K)) (D__law_number : Df PR w K mg base 2 "_law_number" [] (spNum K)) (D__law_text : Df PR w K mg base 2 "_law_text" [] (spText K)) (M_Store : Mkr PR w K mg base 8 (He.ga K "Store") ["by"] (spStoInit K)) (M_Table2 : Mkr PR w K mg base 6 (He.ga K "Table") [] (spTabInit K)) (D__law_doors : Df PR w K mg base 16 "_law_doors" [] (spDoors K)) : Walked PR w K mg base 16 ["script", "box", "width", "row", "store", "turn", "c"] "law" s_law (He.ga K "law") ((spLaw K)) := by
  intro cdv A outer s H vs Q E hr h
  obtain ⟨a, ns, rfl, hs, hlen, hQ⟩ := h
  refine ⟨_, (pss_cons (ps_set (i := 1) sc_law.nd rfl (Or.inr rfl) (pe_lst (pa_cons pe_int (pa_cons pe_int pa_nil))))
    (pss_cons (ps_set (i := 2) sc_law.nd rfl (Or.inl rfl) (pe_df D__law_width (hr.mono (by decide)) (by rfl) passLA (pa_cons (pv 0) (pa_cons (pv 1) pa_nil))))
    (pss_cons (ps_set (i := 3) sc_law.nd rfl (Or.inl rfl) (pe_callTy call_tuple_of (by rfl) T.b_tuple (by decide +kernel) (pa_cons (pe_lc (own := [("c", 6)]) (g := gName 6) (tt := tYes) rfl sc_law.nd (pi_range1 rfl T.b_range (pa_cons (pv 2) pa_nil)) (blkOk_by (own := [("c", 6)]) (N := ["script", "box", "width", "row", "store", "turn", "c"]) (sc := defScope s_law) (by decide +kernel)) (fun _ _ _ _ _ => (pg_name (i := 6) sc_law.nd rfl (Or.inl rfl))) (fun _ _ _ _ _ => pts_nil) (fun _ _ _ _ _ => (pe_df D__law_number (hr.mono (by decide)) (by rfl) passLA (pa_cons (pv 0) (pa_cons (pv 1) pa_nil))))) pa_nil)))
    (pss_cons (ps_set (i := 4) sc_law.nd rfl (Or.inl rfl) (pe_mkK M_Store (hr.mono (by decide)) (by rfl) T.g_Store passLA (pa_cons (pe_mk M_Table2 (hr.mono (by decide)) (by rfl) T.g_Table passLA (pa_cons (pv 2) (pa_cons (pe_lst (pa_cons (pv 3) pa_nil)) pa_nil))) pa_nil) (pk_cons pe_str pk_nil)))
    (pss_cons (ps_for poOf rfl (pi_range1 rfl T.b_range (pa_cons pe_int pa_nil)) (pg_name (i := 5) sc_law.nd rfl (Or.inl rfl)) (pss_one (ps_if (pt_not (pt_val (pe_df D__law_doors (hr.mono (by decide)) (by rfl) passLA (pa_cons (pe_df D__law_text (hr.mono (by decide)) (by rfl) passLA (pa_cons (pv 0) (pa_cons (pv 1) pa_nil))) (pa_cons (pv 2) (pa_cons (pv 3) (pa_cons (pv 4) pa_nil))))))) (pss_one (ps_ret pe_bl)) pss_nil)))
    (pss_one (ps_ret (pe_and (pe_df D__law_doors (hr.mono (by decide)) (by rfl) passLA (pa_cons pe_str (pa_cons (pv 2) (pa_cons (pv 3) (pa_cons (pv 4) pa_nil))))) (pe_one (pe_df D__law_doors (hr.mono (by decide)) (by rfl) passLA (pa_cons pe_str (pa_cons (pv 2) (pa_cons (pv 3) (pa_cons (pv 4) pa_nil)))))))))))))), ?_⟩
  obtain ⟨oa, hoa⟩ : ∃ oa, H a = some oa ∨ ∀ H, SqL K H a (vis ns) := by
    rcases hs with (h | ⟨u, h⟩) | h
    · exact ⟨_, .inl h⟩
    · exact ⟨_, .inl h⟩
    · exact ⟨.lst [], .inr fun H => .inr h⟩
  refine ⟨sz2, fun b hb => ?_⟩
  have f0 := Ex.new (o := .lst [.int 0, .int 0]) hb
  have nab := apart hoa hb
  have hB : Box K (upd H b (.lst [.int 0, .int 0])) a b ns := ⟨nab, ex_l f0 hs, hlen, 0, 0, upd_same, by decide, by decide⟩
  have ha0 := keepE f0 hoa
  refine ⟨_, rfl, _, rfl, a, b, ns, rfl, hB, fun n H1 hn hn8 e1 hB1 => ?_⟩
  have ha1 := keep_ e1 ha0 nab
  refine ⟨_, rfl, (n : Int), rfl, by omega, by omega, fun D hD => ?_⟩
  have hbD : ∀ {H : Hp} {c d : Addr} {ns : List Int}, Box K H c d ns → H D = none → d ≠ D := fun h z => by
    obtain ⟨ne, hs, hl, l, t, hb, h0, h1⟩ := h
    exact ne_of_none hb z
  have nbD : b ≠ D := hbD hB1 hD
  have naD := apart ha1 hD
  refine lc_range (lo := 0) (n := n) (fun i H' => ∃ r : Rwv, r.length = i ∧ H' D = some (.lst (vis r)) ∧ (H' a = some oa ∨ ∀ H, SqL K H a (vis ns)) ∧ Box K H' a b ns) ⟨[], rfl, upd_same, keepE (Ex.new hD) ha1, hB1.ex (Ex.new hD)⟩ ?_ ?_
  · rintro i H2 hi ⟨r, hrl, hr2, ha2, hB2⟩
    refine ⟨rfl, _, rfl, _, rfl, a, b, ns, rfl, hB2, fun v H3 e3 hB3 => ?_⟩
    refine ⟨vis r, e3 _ _ (Ne.symm nbD) hr2, by rw [vis_len, hrl]; exact szK (by omega), r ++ [v], by rw [List.length_append, hrl]; rfl, ?_, ?_, hB3.exx naD nbD ExX.refl.set⟩
    · rw [upd_same]
      simp [vis]
    · exact keep_ ExX.refl.set (keep_ e3 ha2 nab) naD
  rintro H2 ⟨r, hrl, hr2, ha2, hB2⟩
  refine ⟨D, vis r, rfl, .inl ⟨sq_of hr2, fun t ht => ?_⟩⟩
  have f3 := Ex.new (o := .tup (vis r)) ht
  have ht3 : SqT K (upd H2 t (.tup (vis r))) t (vis r) := st_of upd_same
  have hB3 := hB2.ex f3
  have ha3 := keepE f3 ha2
  generalize upd H2 t (.tup (vis r)) = H3 at f3 ht3 hB3 ha3
  have rsok : RowsOk n [r] := ⟨fun q hq => by rw [List.mem_singleton] at hq; rw [hq]; exact hrl, by simp⟩
  refine ⟨_, rfl, _, rfl, sz1, fun p1 hp1 => ⟨rfl, fun tb dtb htbn hdtb hne2 => ⟨tb, dtb, p1, true, [.ref t], [r], n, rfl, fresh_of hne2, ex_l (mk_en htbn hdtb) (sq_of upd_same), vrs_ex (ExN.of ((Ex.new hp1).trans (mk_en htbn hdtb))) (.cons ⟨t, rfl, ht3⟩ .nil), hn, by omega, rsok, (by show 1 ≤ 100000; decide), fun H4 e4' htb => ⟨rfl, ?_⟩⟩⟩⟩
  have e4 := (Ex.new (o := .lst [.ref t]) hp1).trans (ExI.new htbn hdtb e4')
  have hB4 := hB3.ex e4
  have ha4 := keepE e4 ha3
  have ht4 := ex_t e4 ht3
  refine ⟨rfl, fun x dx hx hdx hne3 => ?_⟩
  have nax := apart ha4 hx
  have nbx : b ≠ x := by
    obtain ⟨_, _, _, l, t, hb, _, _⟩ := hB4
    exact ne_of_none hb hx
  refine ⟨x, dx, tb, n, [r], "column", rfl, fresh_of hne3, htb.mono (mk_en hx hdx), fun z => absurd (.inr rfl) z, fun gd H5 e5' hs5 => ⟨rfl, ?_⟩⟩
  have e5 := ExX.new hx hdx e5'
  have hB5 := hB4.ex e5
  have ht5 := ex_t e5 ht4
  refine ⟨4, rfl, by decide, by decide, for_range (lo := 0) (n := 4) (fun _ σ' H' => ∃ s1 o5, σ' = [some (.ref a), some (.ref b), some (.int (n : Int)), some (.ref t), some (.ref x), o5, none] ∧ Box K H' a b ns ∧ SqT K H' t (vis r) ∧ VSto K H' x s1) ⟨"column", none, rfl, hB5, ht5, hs5⟩ ?_ ?_⟩
  · rintro i σ' H6 hi ⟨s1, o5, rfl, hB6, ht6, hs6⟩
    refine ⟨_, rfl, _, rfl, a, b, ns, rfl, hB6, fun s H7 e7 hB7 => ?_⟩
    have ht7 : SqT K H7 t (vis r) := by
      obtain ⟨_, _, _, l, t, hb, _, _⟩ := hB6
      exact exn_t (exN_l hb e7) ht6
    have hs7 : VSto K H7 x s1 := by
      obtain ⟨dy, v, u, h⟩ := hs6
      exact ⟨dy, v, u, e7 _ _ (Ne.symm nbx) h⟩
    refine ⟨_, rfl, _, rfl, _, rfl, s, s1, n, t, x, r, rfl, ht7, hrl, hn, hn8, hs7, fun H8 s2 e8 hs8 => ⟨true, rfl, ifF rfl ?_⟩⟩
    refine ⟨s2, _, rfl, hB7.exx nax nbx e8, ?_, hs8⟩
    obtain ⟨dy, v, u, h⟩ := hs7
    exact exn_t (ExX.exN h e8) ht7
  · rintro σ' H6 ⟨s1, o5, rfl, hB6, ht6, hs6⟩
    refine ⟨_, rfl, _, rfl, _, rfl, "row", s1, n, t, x, r, rfl, ht6, hrl, hn, hn8, hs6, fun H8 s2 e8 hs8 => ⟨true, rfl, ifT rfl ?_⟩⟩
    have ht8 : SqT K H8 t (vis r) := by
      obtain ⟨dy, v, u, h⟩ := hs6
      exact exn_t (ExX.exN h e8) ht6
    refine ⟨_, rfl, _, rfl, _, rfl, "column", s2, n, t, x, r, rfl, ht8, hrl, hn, hn8, hs8, fun H9 s3 e9 hs9 => ?_⟩
    exact hQ _

end Kx

end

section
set_option Elab.async false
set_option linter.all false
set_option maxRecDepth 100000
set_option maxHeartbeats 0
namespace Kx
open PySem PySem.Spec PyProof.Rows L2 Evl Pl
theorem law_at {w : World} {K : Fg} {mg : Str → Option Value} {h : Heap} {fa : Addr} (T : Top K mg) (hfa : mg ("law" : Str) = some (.ref fa)) : LamX.LawAtS PySem.Challenge.rw_placelayers_k88_rules_at_every_door w K (L2.CX PR w) 17 63 "script" mg fa h := by
  obtain ⟨g, fd, F⟩ := T.f_law
  obtain rfl : fa = He.ga K "law" := by
    have e := hfa.symm.trans g
    injection e with e
    injection e
  have b := FunD.bindsA (ps := ["script"]) F fun _ _ _ _ _ _ us hl => match us, hl with | [_], _ => rfl
  refine ⟨fd, [], spLaw K, fun _ h => by simp at h, fun _ h => by simp at h, fun _ h => by simp at h, fun s v => b s [v] rfl, fun H a ns hl _ _ hS => ⟨a, ns, rfl, hS, hl, fun _ => rfl⟩, fun base _ _ _ => ?_⟩
  have D_is_integer := T.f_is_integer.df (ok_is_integer (w := w) (base := base) T)
  have D_count_below := T.f_count_below.df (ok_count_below (w := w) (base := base) T)
  have D_check_width := T.f_check_width.df (ok_check_width (w := w) (base := base) T D_is_integer)
  have D_is_row := T.f_is_row.df (ok_is_row (w := w) (base := base) T D_is_integer)
  have D_check_rows := T.f_check_rows.df (ok_check_rows (w := w) (base := base) T D_is_row)
  have D_entry_key := T.f_entry_key.df (ok_entry_key (w := w) (base := base) T)
  have D_entry_growth := T.f_entry_growth.df (ok_entry_growth (w := w) (base := base) T)
  have D_gap_size := T.f_gap_size.df (ok_gap_size (w := w) (base := base) T)
  have D_in_order := T.f_in_order.df (ok_in_order (w := w) (base := base) T D_gap_size D_entry_key)
  have D_is_entry := T.f_is_entry.df (ok_is_entry (w := w) (base := base) T D_is_integer D_is_row)
  have D_check_entries := T.f_check_entries.df (ok_check_entries (w := w) (base := base) T D_is_entry D_in_order)
  have D_turned := T.f_turned.df (ok_turned (w := w) (base := base) T D_entry_growth)
  have D_make_link := T.f_make_link.df (ok_make_link (w := w) (base := base) T)
  have D_links := T.f_links.df (ok_links (w := w) (base := base) T D_entry_key D_entry_growth D_gap_size D_make_link)
  have D_check_rule := T.f_check_rule.df (ok_check_rule (w := w) (base := base) T)
  have M_Layer2 := mk_Layer2 (w := w) (base := base) T D_check_width D_check_entries D_entry_key
  have M_Layer1 := mk_Layer1 (w := w) (base := base) T D_check_width D_check_entries D_entry_key
  have D_Layer_empty := ok_Layer_empty (w := w) (base := base) T M_Layer1
  have I_Layer := iter_Layer (w := w) (base := base) T
  have L_Layer := (ok_Layer_len (w := w) (base := base) T).r
  have D_Layer_entry : MtS PR w K mg base 2 (He.ga K "Layer") "entry" (spLayEntry K) := ⟨T.c_Layer, _, T.m_Layer_entry.1, ok_Layer_entry (w := w) (base := base) T D_count_below⟩
  have M_Table2 := mk_Table2 (w := w) (base := base) T D_check_width D_check_rows
  have M_Table1 := mk_Table1 (w := w) (base := base) T D_check_width D_check_rows
  have I_Table := iter_Table (w := w) (base := base) T
  have D_Table_rank : MtS PR w K mg base 2 (He.ga K "Table") "rank" (spRank K) := ⟨T.c_Table, _, T.m_Table_rank.1, ok_Table_rank (w := w) (base := base) T D_count_below⟩
  have D_Table_find : MtS PR w K mg base 3 (He.ga K "Table") "find" (spFind K) := ⟨T.c_Table, _, T.m_Table_find.1, ok_Table_find (w := w) (base := base) T D_Table_rank⟩
  have D_share_base := T.f_share_base.df (ok_share_base (w := w) (base := base) T D_links D_turned I_Layer L_Layer)
  have D_in_conflict := T.f_in_conflict.df (ok_in_conflict (w := w) (base := base) T)
  have D_conflicts := T.f_conflicts.df (ok_conflicts (w := w) (base := base) T D_check_rule D_share_base D_entry_key D_in_conflict D_Layer_entry I_Layer)
  have D_moved := T.f_moved.df (ok_moved (w := w) (base := base) T D_conflicts)
  have D_merged := T.f_merged.df (ok_merged (w := w) (base := base) T D_check_rule D_moved)
  have D_can_be_done := T.f_can_be_done.df (ok_can_be_done (w := w) (base := base) T)
  have D_replay := T.f_replay.df (ok_replay (w := w) (base := base) T D_check_rule D_entry_key D_can_be_done D_Table_find I_Layer I_Table)
  have M_Stack1 := mk_Stack1 (w := w) (base := base) T
  have M_History : Mkr PR w K mg base 6 (He.ga K "History") [] (spHistInit K) := ⟨_, T.i_History.1, ok_History_init (w := w) (base := base) T M_Stack1⟩
  have M_Store := mk_Store (w := w) (base := base) T D_check_rule M_History
  have M_Desk := mk_Desk (w := w) (base := base) T M_Store
  have D_Store_by : PrD PR w K mg base 1 (He.ga K "Store") "by" (spBy K) := ⟨T.c_Store, _, _, T.p_Store_by.1, ok_Store_by (w := w) (base := base) T⟩
  have D_Store_by_set : SetD PR w K mg base 3 (He.ga K "Store") "by" (spBySet K) := ⟨T.c_Store, _, _, T.q_Store_by.1, ok_Store_by_set (w := w) (base := base) T D_check_rule⟩
  have D_Store_use_rule : MtD PR w K mg base 6 (He.ga K "Store") "use_rule" (spBySet K) := ⟨T.c_Store, _, T.m_Store_use_rule.1, ok_Store_use_rule (w := w) (base := base) T D_Store_by_set⟩
  have D__law_take := T.f__law_take.df (ok__law_take (w := w) (base := base) T)
  have D__law_number := T.f__law_number.df (ok__law_number (w := w) (base := base) T D__law_take)
  have D__law_width := T.f__law_width.df (ok__law_width (w := w) (base := base) T D__law_take)
  have D__law_text := T.f__law_text.df (ok__law_text (w := w) (base := base) T D__law_take)
  have D__law_call := T.f__law_call.df (ok__law_call (w := w) (base := base) T M_Table2 M_Table1 M_Layer2 D_Layer_empty D_conflicts D_moved D_merged D_replay M_Store M_Desk D_Store_by D_Store_use_rule I_Layer L_Layer)
  have D__law_told := T.f__law_told.df (ok__law_told (w := w) (base := base) T D__law_call)
  have D__law_doors := T.f__law_doors.df (ok__law_doors (w := w) (base := base) T D__law_told D_Store_by)
  exact F.ok sc_law (fun vs H Q E h => by obtain ⟨a, ns, rfl, _⟩ := h; rfl) (walk_law (w := w) (base := base) T D__law_width D__law_number D__law_text M_Store M_Table2 D__law_doors)
end Kx

end

section
set_option Elab.async false
set_option linter.all false
set_option maxRecDepth 100000
set_option maxHeartbeats 0
namespace Kx
open PySem PySem.Spec PyProof.Rows L2 Evl Pl
abbrev R : PySem.W.OpenRow := PySem.W.OpenLaw.row PySem.Challenge.rw_placelayers_k88_rules_at_every_door
abbrev qv : Program := PySem.W.view R.prog [86]
def nm0 : List PySem.Str := ["_wall", "LayerError", "InvalidWidth", "InvalidRow", "RowsOutOfOrder", "InvalidEntry", "EntriesOutOfOrder", "InvalidText", "DifferentWidth", "DoesNotFit", "DoesNotFollow", "NoCommonBase", "InvalidRule", "Conflict", "NoPlace", "NoVersion", "MOST_DIGITS", "DIGITS", "is_integer", "number_text", "read_number", "count_below", "check_width", "is_row", "check_rows", "changed_columns", "with_columns", "row_text", "read_words", "read_row"]
def nm1 : List PySem.Str := ["read_width", "is_entry", "entry_key", "entry_kind", "entry_growth", "gap_size", "in_order", "check_entries", "entry_text", "read_entry", "turned", "make_link", "links", "joined", "RULES", "check_rule", "share_base", "in_conflict", "conflicts", "Layer", "total", "Stack", "History", "moved_entry", "moved", "merged", "Store", "Desk", "laid", "differences"]
def nm2 : List PySem.Str := ["Table", "can_be_done", "done_row", "replay", "_law_take", "_law_number", "_law_width", "_law_text", "_law_call", "_law_told", "_law_doors"]
def names : List PySem.Str := nm0 ++ nm1 ++ nm2
def seeN0 : List Str := ["is_integer",
  "count_below",
  "check_width",
  "is_row",
  "check_rows",
  "is_entry",
  "entry_key",
  "entry_growth",
  "gap_size",
  "in_order",
  "check_entries",
  "turned",
  "make_link",
  "links",
  "check_rule",
  "share_base",
  "in_conflict",
  "conflicts",
  "moved",
  "merged",
  "can_be_done",
  "replay",
  "_law_take",
  "_law_number",
  "_law_width",
  "_law_text",
  "_law_call",
  "_law_told",
  "_law_doors",
  "law"]
def seeN1 : List Str := ["Layer",
  "Table",
  "Stack",
  "History",
  "Store",
  "Desk",
  "LayerError",
  "DoesNotFollow",
  "NoCommonBase",
  "InvalidRule",
  "DifferentWidth",
  "Conflict",
  "RULES"]
def seeN : List Str := seeN0 ++ seeN1
def seeC0 : List Str := ["Layer",
  "Table",
  "Stack",
  "History",
  "Store",
  "Desk",
  "LayerError",
  "DoesNotFollow",
  "NoCommonBase",
  "InvalidRule",
  "DifferentWidth",
  "Conflict"]
def seeC : List Str := seeC0
def seeM0 : List (Str × Str) := [("Layer", "_entries"),
  ("Layer", "_key_list"),
  ("Layer", "width"),
  ("Layer", "__init__"),
  ("Layer", "empty"),
  ("Layer", "__iter__"),
  ("Layer", "__len__"),
  ("Layer", "entry"),
  ("Table", "_key_list"),
  ("Table", "_rows"),
  ("Table", "width"),
  ("Table", "__init__"),
  ("Table", "__iter__"),
  ("Table", "__len__"),
  ("Table", "rank"),
  ("Table", "find"),
  ("Stack", "_layers"),
  ("Stack", "base"),
  ("Stack", "width"),
  ("Stack", "__init__"),
  ("History", "__init__"),
  ("Store", "__init__"),
  ("Store", "by"),
  ("Store", "use_rule"),
  ("Desk", "__init__"),
  ("InvalidRule", "__init__"),
  ("DifferentWidth", "__init__"),
  ("Conflict", "__init__")]
def seeM : List (Str × Str) := seeM0
def seeD0 : List At := [.g "is_integer",
  .g "count_below",
  .g "check_width",
  .g "is_row",
  .g "check_rows",
  .g "is_entry",
  .g "entry_key",
  .g "entry_growth",
  .g "gap_size",
  .g "in_order",
  .g "check_entries",
  .g "turned",
  .g "make_link",
  .g "links",
  .g "check_rule",
  .g "share_base",
  .g "in_conflict",
  .g "conflicts",
  .g "moved",
  .g "merged",
  .g "can_be_done",
  .g "replay",
  .g "_law_take",
  .g "_law_number",
  .g "_law_width",
  .g "_law_text",
  .g "_law_call",
  .g "_law_told",
  .g "_law_doors",
  .g "law"]
def seeD1 : List At := [.m "Layer" "__init__",
  .cm "Layer" "empty",
  .m "Layer" "__iter__",
  .m "Layer" "__len__",
  .m "Layer" "entry",
  .m "Table" "__init__",
  .m "Table" "__iter__",
  .m "Table" "__len__",
  .m "Table" "rank",
  .m "Table" "find",
  .m "Stack" "__init__",
  .m "History" "__init__",
  .m "Store" "__init__",
  .pg "Store" "by",
  .ps "Store" "by",
  .m "Store" "use_rule",
  .m "Desk" "__init__",
  .m "InvalidRule" "__init__",
  .m "DifferentWidth" "__init__",
  .m "Conflict" "__init__"]
def seeD : List At := seeD0 ++ seeD1
def see : See := ⟨seeN, seeC, seeM, seeD⟩
def cks0 : List (Fg → Bool) := [ckGlo "is_integer",
  ckGlo "count_below",
  ckGlo "check_width",
  ckGlo "is_row",
  ckGlo "check_rows",
  ckGlo "is_entry",
  ckGlo "entry_key",
  ckGlo "entry_growth",
  ckGlo "gap_size",
  ckGlo "in_order",
  ckGlo "check_entries",
  ckGlo "turned",
  ckGlo "make_link",
  ckGlo "links",
  ckGlo "check_rule",
  ckGlo "share_base",
  ckGlo "in_conflict",
  ckGlo "conflicts",
  ckGlo "moved",
  ckGlo "merged",
  ckGlo "can_be_done",
  ckGlo "replay",
  ckGlo "_law_take",
  ckGlo "_law_number",
  ckGlo "_law_width",
  ckGlo "_law_text",
  ckGlo "_law_call",
  ckGlo "_law_told",
  ckGlo "_law_doors",
  ckGlo "law",
  ckGlo "Layer",
  ckSl "Layer",
  ckSlot "Layer" "_entries" 0,
  ckSlot "Layer" "_key_list" 1,
  ckSlot "Layer" "width" 2,
  ckMk "Layer",
  ckTupA (dfAd "Layer") [],
  ckCm "Layer" "empty",
  ckMeth "Layer" "__iter__",
  ckMeth "Layer" "__len__"]
def cks1 : List (Fg → Bool) := [ckMeth "Layer" "entry",
  ckGlo "Table",
  ckSl "Table",
  ckSlot "Table" "_key_list" 0,
  ckSlot "Table" "_rows" 1,
  ckSlot "Table" "width" 2,
  ckMk "Table",
  ckTupA (dfAd "Table") [],
  ckMeth "Table" "__iter__",
  ckMeth "Table" "__len__",
  ckMeth "Table" "rank",
  ckMeth "Table" "find",
  ckGlo "Stack",
  ckSl "Stack",
  ckSlot "Stack" "_layers" 0,
  ckSlot "Stack" "base" 1,
  ckSlot "Stack" "width" 2,
  ckMk "Stack",
  ckTupA (dfAd "Stack") [],
  ckGlo "History",
  ckCls "History",
  ckNo "History" "_stack",
  ckNo "History" "_numbers",
  ckMk "History",
  ckGlo "Store",
  ckCls "Store",
  ckNo "Store" "_by",
  ckNo "Store" "_history",
  ckNo "Store" "_pins",
  ckMk "Store",
  ckProp "Store" "by",
  ckSet "Store" "by",
  ckMeth "Store" "use_rule",
  ckGlo "Desk",
  ckCls "Desk",
  ckNo "Desk" "store",
  ckNo "Desk" "_named",
  ckMk "Desk",
  ckGlo "DoesNotFollow",
  ckExc0 "DoesNotFollow" []]
def cks2 : List (Fg → Bool) := [ckGlo "NoCommonBase",
  ckExc0 "NoCommonBase" [],
  ckGlo "InvalidRule",
  ckFree "super",
  ckX PR.main.file "InvalidRule",
  ckNo "InvalidRule" "rule",
  ckGlo "DifferentWidth",
  ckX PR.main.file "DifferentWidth",
  ckNo "DifferentWidth" "first",
  ckNo "DifferentWidth" "second",
  ckGlo "Conflict",
  ckX PR.main.file "Conflict",
  ckNo "Conflict" "conflicts",
  ckExm "InvalidRule" "InvalidRule" true,
  ckExm "InvalidRule" "DifferentWidth" false,
  ckExm "InvalidRule" "NoCommonBase" false,
  ckExm "InvalidRule" "Conflict" false,
  ckExm "DifferentWidth" "InvalidRule" false,
  ckExm "DifferentWidth" "DifferentWidth" true,
  ckExm "DifferentWidth" "NoCommonBase" false,
  ckExm "DifferentWidth" "Conflict" false,
  ckExm "NoCommonBase" "InvalidRule" false,
  ckExm "NoCommonBase" "DifferentWidth" false,
  ckExm "NoCommonBase" "NoCommonBase" true,
  ckExm "NoCommonBase" "Conflict" false,
  ckExm "Conflict" "InvalidRule" false,
  ckExm "Conflict" "DifferentWidth" false,
  ckExm "Conflict" "NoCommonBase" false,
  ckExm "Conflict" "Conflict" true,
  ckExm "DoesNotFollow" "DoesNotFollow" true,
  fun K => xfB K (He.ga K "InvalidRule"),
  ckGlo "RULES",
  ckTupA (fun K => He.ga K "RULES") [.str "row", .str "column"],
  ckFree "isinstance",
  ckFree "int",
  ckFree "bool",
  ckFree "tuple",
  ckFree "len",
  ckFree "all",
  ckFree "any"]
def cks3 : List (Fg → Bool) := [ckFree "enumerate",
  ckFree "range",
  ckFree "sorted",
  ckFree "iter",
  ckFree "list",
  ckFree "abs",
  ckFree "str"]
def cks : List (Fg → Bool) := cks0 ++ cks1 ++ cks2 ++ cks3
def dfs0 : List DefP := [⟨.g "is_integer", "is_integer", "is_integer", s_is_integer, [], []⟩,
  ⟨.g "count_below", "count_below", "count_below", s_count_below, [], []⟩,
  ⟨.g "check_width", "check_width", "check_width", s_check_width, [], []⟩,
  ⟨.g "is_row", "is_row", "is_row", s_is_row, [], []⟩,
  ⟨.g "check_rows", "check_rows", "check_rows", s_check_rows, [], []⟩,
  ⟨.g "is_entry", "is_entry", "is_entry", s_is_entry, [], []⟩,
  ⟨.g "entry_key", "entry_key", "entry_key", s_entry_key, [], []⟩,
  ⟨.g "entry_growth", "entry_growth", "entry_growth", s_entry_growth, [], []⟩,
  ⟨.g "gap_size", "gap_size", "gap_size", s_gap_size, [], []⟩,
  ⟨.g "in_order", "in_order", "in_order", s_in_order, [], []⟩,
  ⟨.g "check_entries", "check_entries", "check_entries", s_check_entries, [], []⟩,
  ⟨.g "turned", "turned", "turned", s_turned, [], []⟩,
  ⟨.g "make_link", "make_link", "make_link", s_make_link, [], []⟩,
  ⟨.g "links", "links", "links", s_links, [], []⟩,
  ⟨.g "check_rule", "check_rule", "check_rule", s_check_rule, [], []⟩,
  ⟨.g "share_base", "share_base", "share_base", s_share_base, [], []⟩,
  ⟨.g "in_conflict", "in_conflict", "in_conflict", s_in_conflict, [], []⟩,
  ⟨.g "conflicts", "conflicts", "conflicts", s_conflicts, [], []⟩,
  ⟨.g "moved", "moved", "moved", s_moved, [], []⟩,
  ⟨.g "merged", "merged", "merged", s_merged, [], []⟩,
  ⟨.g "can_be_done", "can_be_done", "can_be_done", s_can_be_done, [], []⟩,
  ⟨.g "replay", "replay", "replay", s_replay, [], []⟩,
  ⟨.g "_law_take", "_law_take", "_law_take", s__law_take, [], []⟩,
  ⟨.g "_law_number", "_law_number", "_law_number", s__law_number, [], []⟩,
  ⟨.g "_law_width", "_law_width", "_law_width", s__law_width, [], []⟩,
  ⟨.g "_law_text", "_law_text", "_law_text", s__law_text, [], []⟩,
  ⟨.g "_law_call", "_law_call", "_law_call", s__law_call, [], []⟩,
  ⟨.g "_law_told", "_law_told", "_law_told", s__law_told, [], []⟩,
  ⟨.g "_law_doors", "_law_doors", "_law_doors", s__law_doors, [], []⟩,
  ⟨.g "law", "law", "law", s_law, [], []⟩,
  ⟨.m "Layer" "__init__", "__init__", "Layer.__init__", s_Layer_init, [.adr (dfAd "Layer")], []⟩,
  ⟨.cm "Layer" "empty", "empty", "Layer.empty", s_Layer_empty, [], []⟩,
  ⟨.m "Layer" "__iter__", "__iter__", "Layer.__iter__", s_Layer_iter, [], []⟩,
  ⟨.m "Layer" "__len__", "__len__", "Layer.__len__", s_Layer_len, [], []⟩,
  ⟨.m "Layer" "entry", "entry", "Layer.entry", s_Layer_entry, [], []⟩,
  ⟨.m "Table" "__init__", "__init__", "Table.__init__", s_Table_init, [.adr (dfAd "Table")], []⟩,
  ⟨.m "Table" "__iter__", "__iter__", "Table.__iter__", s_Table_iter, [], []⟩,
  ⟨.m "Table" "__len__", "__len__", "Table.__len__", s_Table_len, [], []⟩,
  ⟨.m "Table" "rank", "rank", "Table.rank", s_Table_rank, [], []⟩,
  ⟨.m "Table" "find", "find", "Table.find", s_Table_find, [], []⟩]
def dfs1 : List DefP := [⟨.m "Stack" "__init__", "__init__", "Stack.__init__", s_Stack_init, [.adr (dfAd "Stack")], []⟩,
  ⟨.m "History" "__init__", "__init__", "History.__init__", s_History_init, [], []⟩,
  ⟨.m "Store" "__init__", "__init__", "Store.__init__", s_Store_init, [], []⟩,
  ⟨.pg "Store" "by", "by", "Store.by", s_Store_by, [], []⟩,
  ⟨.ps "Store" "by", "by", "Store.by", s_Store_by_set, [], []⟩,
  ⟨.m "Store" "use_rule", "use_rule", "Store.use_rule", s_Store_use_rule, [], []⟩,
  ⟨.m "Desk" "__init__", "__init__", "Desk.__init__", s_Desk_init, [], []⟩,
  ⟨.m "InvalidRule" "__init__", "__init__", "InvalidRule.__init__", s_InvalidRule_init, [], ["__class__"]⟩,
  ⟨.m "DifferentWidth" "__init__", "__init__", "DifferentWidth.__init__", s_DifferentWidth_init, [], ["__class__"]⟩,
  ⟨.m "Conflict" "__init__", "__init__", "Conflict.__init__", s_Conflict_init, [], ["__class__"]⟩]
def dfs : List DefP := dfs0 ++ dfs1
abbrev hk : PySem.W.Hook := hookP see cks dfs
def ob (s : PySem.W.SharedT) : Bool × List FnZ := obsP cks dfs (see.fg (HandSHeadRun.getT s))
theorem ob_eq (s : PySem.W.SharedT) : ob s = hk.obs s.abs := obsP_eq (HandSHeadRun.getT_eq s)
theorem run (w : World) : HandSHeadRun.RunEq R qv hk ob 20000 names w := by
  intro os
  kernel_rfl
theorem top_of {K : Fg} {h : Heap} {mg : Str → Option Value} (X : K.In h) (G : h.Ns mainGlobals mg) (c : SaysP cks dfs K) : Top K mg where
  f_is_integer := ⟨ckGlo_ok X G (c.fact 0), c.def_ 0⟩
  f_count_below := ⟨ckGlo_ok X G (c.fact 1), c.def_ 1⟩
  f_check_width := ⟨ckGlo_ok X G (c.fact 2), c.def_ 2⟩
  f_is_row := ⟨ckGlo_ok X G (c.fact 3), c.def_ 3⟩
  f_check_rows := ⟨ckGlo_ok X G (c.fact 4), c.def_ 4⟩
  f_is_entry := ⟨ckGlo_ok X G (c.fact 5), c.def_ 5⟩
  f_entry_key := ⟨ckGlo_ok X G (c.fact 6), c.def_ 6⟩
  f_entry_growth := ⟨ckGlo_ok X G (c.fact 7), c.def_ 7⟩
  f_gap_size := ⟨ckGlo_ok X G (c.fact 8), c.def_ 8⟩
  f_in_order := ⟨ckGlo_ok X G (c.fact 9), c.def_ 9⟩
  f_check_entries := ⟨ckGlo_ok X G (c.fact 10), c.def_ 10⟩
  f_turned := ⟨ckGlo_ok X G (c.fact 11), c.def_ 11⟩
  f_make_link := ⟨ckGlo_ok X G (c.fact 12), c.def_ 12⟩
  f_links := ⟨ckGlo_ok X G (c.fact 13), c.def_ 13⟩
  f_check_rule := ⟨ckGlo_ok X G (c.fact 14), c.def_ 14⟩
  f_share_base := ⟨ckGlo_ok X G (c.fact 15), c.def_ 15⟩
  f_in_conflict := ⟨ckGlo_ok X G (c.fact 16), c.def_ 16⟩
  f_conflicts := ⟨ckGlo_ok X G (c.fact 17), c.def_ 17⟩
  f_moved := ⟨ckGlo_ok X G (c.fact 18), c.def_ 18⟩
  f_merged := ⟨ckGlo_ok X G (c.fact 19), c.def_ 19⟩
  f_can_be_done := ⟨ckGlo_ok X G (c.fact 20), c.def_ 20⟩
  f_replay := ⟨ckGlo_ok X G (c.fact 21), c.def_ 21⟩
  f__law_take := ⟨ckGlo_ok X G (c.fact 22), c.def_ 22⟩
  f__law_number := ⟨ckGlo_ok X G (c.fact 23), c.def_ 23⟩
  f__law_width := ⟨ckGlo_ok X G (c.fact 24), c.def_ 24⟩
  f__law_text := ⟨ckGlo_ok X G (c.fact 25), c.def_ 25⟩
  f__law_call := ⟨ckGlo_ok X G (c.fact 26), c.def_ 26⟩
  f__law_told := ⟨ckGlo_ok X G (c.fact 27), c.def_ 27⟩
  f__law_doors := ⟨ckGlo_ok X G (c.fact 28), c.def_ 28⟩
  f_law := ⟨ckGlo_ok X G (c.fact 29), c.def_ 29⟩
  g_Layer := ckGlo_ok X G (c.fact 30)
  c_Layer := ckSl_ok (c.fact 31)
  s_Layer__entries := ckSlot_ok (c.fact 32)
  s_Layer__key_list := ckSlot_ok (c.fact 33)
  s_Layer_width := ckSlot_ok (c.fact 34)
  i_Layer := ⟨ckMk_ok (c.fact 35), c.def_ 30⟩
  e_Layer := fun H => ckTupA_ok (vs := []) (c.fact 36) H
  cm_Layer_empty := ⟨(ckCm_ok (c.fact 37)).1, (ckCm_ok (c.fact 37)).2, c.def_ 31⟩
  m_Layer_iter := ⟨ckMeth_ok (c.fact 38), c.def_ 32⟩
  m_Layer_len := ⟨ckMeth_ok (c.fact 39), c.def_ 33⟩
  m_Layer_entry := ⟨ckMeth_ok (c.fact 40), c.def_ 34⟩
  g_Table := ckGlo_ok X G (c.fact 41)
  c_Table := ckSl_ok (c.fact 42)
  s_Table__key_list := ckSlot_ok (c.fact 43)
  s_Table__rows := ckSlot_ok (c.fact 44)
  s_Table_width := ckSlot_ok (c.fact 45)
  i_Table := ⟨ckMk_ok (c.fact 46), c.def_ 35⟩
  e_Table := fun H => ckTupA_ok (vs := []) (c.fact 47) H
  m_Table_iter := ⟨ckMeth_ok (c.fact 48), c.def_ 36⟩
  m_Table_len := ⟨ckMeth_ok (c.fact 49), c.def_ 37⟩
  m_Table_rank := ⟨ckMeth_ok (c.fact 50), c.def_ 38⟩
  m_Table_find := ⟨ckMeth_ok (c.fact 51), c.def_ 39⟩
  g_Stack := ckGlo_ok X G (c.fact 52)
  c_Stack := ckSl_ok (c.fact 53)
  s_Stack__layers := ckSlot_ok (c.fact 54)
  s_Stack_base := ckSlot_ok (c.fact 55)
  s_Stack_width := ckSlot_ok (c.fact 56)
  i_Stack := ⟨ckMk_ok (c.fact 57), c.def_ 40⟩
  e_Stack := fun H => ckTupA_ok (vs := []) (c.fact 58) H
  g_History := ckGlo_ok X G (c.fact 59)
  c_History := ckCls_ok (c.fact 60)
  n_History__stack := ckNo_ok (c.fact 61)
  n_History__numbers := ckNo_ok (c.fact 62)
  i_History := ⟨ckMk_ok (c.fact 63), c.def_ 41⟩
  g_Store := ckGlo_ok X G (c.fact 64)
  c_Store := ckCls_ok (c.fact 65)
  n_Store__by := ckNo_ok (c.fact 66)
  n_Store__history := ckNo_ok (c.fact 67)
  n_Store__pins := ckNo_ok (c.fact 68)
  i_Store := ⟨ckMk_ok (c.fact 69), c.def_ 42⟩
  p_Store_by := ⟨ckProp_ok (c.fact 70), c.def_ 43⟩
  q_Store_by := ⟨ckSet_ok (c.fact 71), c.def_ 44⟩
  m_Store_use_rule := ⟨ckMeth_ok (c.fact 72), c.def_ 45⟩
  g_Desk := ckGlo_ok X G (c.fact 73)
  c_Desk := ckCls_ok (c.fact 74)
  n_Desk_store := ckNo_ok (c.fact 75)
  n_Desk__named := ckNo_ok (c.fact 76)
  i_Desk := ⟨ckMk_ok (c.fact 77), c.def_ 46⟩
  g_DoesNotFollow := ckGlo_ok X G (c.fact 78)
  x_DoesNotFollow := ckExc0_ok (B := []) (c.fact 79)
  g_NoCommonBase := ckGlo_ok X G (c.fact 80)
  x_NoCommonBase := ckExc0_ok (B := []) (c.fact 81)
  g_InvalidRule := ckGlo_ok X G (c.fact 82)
  x_InvalidRule := exc1_of (c.fact 84) (c.fact 85) (ckGlo_ok X G (c.fact 82)) (ckFree_ok X G (c.fact 83)) (c.valD 47) (by rfl) rfl rfl rfl rfl rfl rfl (fun _ _ => ⟨⟨_, rfl⟩, rfl⟩) (by decide) (by decide) (by decide) (by decide) (fun _ _ _ _ _ _ _ _ _ => rfl)
  g_DifferentWidth := ckGlo_ok X G (c.fact 86)
  x_DifferentWidth := exc2_of (c.fact 87) (c.fact 88) (c.fact 89) (ckGlo_ok X G (c.fact 86)) (ckFree_ok X G (c.fact 83)) (c.valD 48) (by rfl) rfl rfl rfl rfl rfl rfl (fun _ _ => ⟨⟨_, rfl⟩, rfl⟩) (by constructor <;> decide) (fun _ _ _ _ _ _ _ _ _ _ => rfl)
  g_Conflict := ckGlo_ok X G (c.fact 90)
  x_Conflict := exc1_of (c.fact 91) (c.fact 92) (ckGlo_ok X G (c.fact 90)) (ckFree_ok X G (c.fact 83)) (c.valD 49) (by rfl) rfl rfl rfl rfl rfl rfl (fun _ _ => ⟨⟨_, rfl⟩, rfl⟩) (by decide) (by decide) (by decide) (by decide) (fun _ _ _ _ _ _ _ _ _ => rfl)
  ex_InvalidRule_InvalidRule := ckExm_ok (c.fact 93)
  ex_InvalidRule_DifferentWidth := ckExm_ok (c.fact 94)
  ex_InvalidRule_NoCommonBase := ckExm_ok (c.fact 95)
  ex_InvalidRule_Conflict := ckExm_ok (c.fact 96)
  ex_DifferentWidth_InvalidRule := ckExm_ok (c.fact 97)
  ex_DifferentWidth_DifferentWidth := ckExm_ok (c.fact 98)
  ex_DifferentWidth_NoCommonBase := ckExm_ok (c.fact 99)
  ex_DifferentWidth_Conflict := ckExm_ok (c.fact 100)
  ex_NoCommonBase_InvalidRule := ckExm_ok (c.fact 101)
  ex_NoCommonBase_DifferentWidth := ckExm_ok (c.fact 102)
  ex_NoCommonBase_NoCommonBase := ckExm_ok (c.fact 103)
  ex_NoCommonBase_Conflict := ckExm_ok (c.fact 104)
  ex_Conflict_InvalidRule := ckExm_ok (c.fact 105)
  ex_Conflict_DifferentWidth := ckExm_ok (c.fact 106)
  ex_Conflict_NoCommonBase := ckExm_ok (c.fact 107)
  ex_Conflict_Conflict := ckExm_ok (c.fact 108)
  ex_DoesNotFollow_DoesNotFollow := ckExm_ok (c.fact 109)
  xf_InvalidRule := xfB_ok (c.fact 110)
  nf_InvalidRule_rule := ckNo_ok (c.fact 85)
  g_RULES := ckGlo_ok X G (c.fact 111)
  t_RULES := fun H => ckTupA_ok (vs := [.str "row", .str "column"]) (c.fact 112) H
  b_isinstance := ckFree_ok X G (c.fact 113)
  b_int := ckFree_ok X G (c.fact 114)
  b_bool := ckFree_ok X G (c.fact 115)
  b_tuple := ckFree_ok X G (c.fact 116)
  b_len := ckFree_ok X G (c.fact 117)
  b_all := ckFree_ok X G (c.fact 118)
  b_any := ckFree_ok X G (c.fact 119)
  b_enumerate := ckFree_ok X G (c.fact 120)
  b_range := ckFree_ok X G (c.fact 121)
  b_sorted := ckFree_ok X G (c.fact 122)
  b_iter := ckFree_ok X G (c.fact 123)
  b_list := ckFree_ok X G (c.fact 124)
  b_abs := ckFree_ok X G (c.fact 125)
  b_str := ckFree_ok X G (c.fact 126)
end Kx


end

section
set_option Elab.async false
set_option linter.all false
set_option maxRecDepth 100000
set_option maxHeartbeats 0
open PySem PySem.W PySem.Calls PyProof.Rows
theorem PySem.Challenge.cw_placelayers_k88_rules_at_every_door_holds : PySem.Challenge.rw_placelayers_k88_rules_at_every_door.Holds := by
  w_on; o_law
  refine HandSHeadRun.head_any (r := OpenLaw.row PySem.Challenge.rw_placelayers_k88_rules_at_every_door) (q := Kx.qv) (H := Kx.hk) (ob := Kx.ob) (M := 20000) (loose := Kx.names) (d := HandSHeadRun.topDef (OpenLaw.row PySem.Challenge.rw_placelayers_k88_rules_at_every_door).prog 86) (kwd := []) Kx.ob_eq
    (by kernel_rfl) (fun s => by kernel_rfl) Kx.run (by kernel_rfl) (by kernel_rfl) (by kernel_rfl) (by rfl) (by first | assumption | decide +kernel) (by decide +kernel) ⟨rfl, rfl, rfl, rfl, rfl, by decide +kernel⟩ ?hw ?hc
  case hw => w_witness2
  case hc =>
    refine LamX.walk_ofTsE (l := PySem.Challenge.rw_placelayers_k88_rules_at_every_door) (n := 63) (k := 17) (x := "script") (CX := fun w => L2.CX Kx.PR w) rfl (by decide) (by kernel_rfl) ⟨rfl, by decide, by decide⟩ ?F (fun _ _ _ _ _ z => Pl.cx0 z)
    intro w mg fa h Y G hmg0
    obtain ⟨K, KX, c⟩ := Y
    have hmg : mg ("law" : PySem.Str) = some (.ref fa) := by
      have e : (HandSHeadRun.topDef (OpenLaw.row PySem.Challenge.rw_placelayers_k88_rules_at_every_door).prog 86).name = ("law" : PySem.Str) := by kernel_rfl
      rw [← e]
      exact hmg0
    exact ⟨K, KX, Kx.law_at (Kx.top_of KX G c) hmg⟩

end

