import PyProof.Rows.All
import Wide.All
import OpenK.AllK
import Wide.FinOn
import HandS.ForMost
import HandS.Wide
import HandS.DictComp
import HandS.IsInst
import HandS.Star
import HandS.TupAny
import HandS.Style
import HandS.Conv
import HandS.Zip
import HandS.Defaults
import HandS.SlotsOwn
import HandS.Codes
import HandS.HeadHook1
import HandS.HeadHook2
import KE.KStateDown
import HandS.Head0
import HandS.Head1
import HandS.Head2
import HandS.HeadEnd
import KE.GoesEnum
import HandS.Walk
import HandS.EndBits
import PySem.Challenge.RW_giftrings_k75_whole_first_slips_make_the
set_option Elab.async false
set_option linter.all false
set_option maxRecDepth 100000
namespace G
open PySem PySem.Spec PyProof.Rows L2
def top (i : Nat) : Stmt := PySem.Challenge.pw_giftrings_k75_whole_first_slips_make_the.main.body.getD i (.Pass ⟨0, 0, 0, 0⟩)
abbrev s_seek : Stmt := top 15
abbrev s_paired : Stmt := top 16
abbrev s_owners_of : Stmt := top 17
abbrev s_reached : Stmt := top 18
abbrev s_table_rows : Stmt := top 19
abbrev s_fixed : Stmt := top 20
abbrev s_is_name : Stmt := top 25
abbrev s_is_person : Stmt := top 26
abbrev s_are_different : Stmt := top 27
abbrev s_is_pair : Stmt := top 28
abbrev s_check_people : Stmt := top 29
abbrev s_check_pairs : Stmt := top 30
abbrev s_check_name : Stmt := top 31
abbrev s_is_lot : Stmt := top 37
abbrev s_is_leak : Stmt := top 38
abbrev s_lets : Stmt := top 39
abbrev s_all_let : Stmt := top 40
abbrev s_drawing : Stmt := top 42
abbrev s_first : Stmt := top 43
abbrev s_table : Stmt := top 45
abbrev sl_cell : Stmt := top 47
abbrev sl_draws : Stmt := top 48
abbrev sl_people : Stmt := top 49
abbrev sl_barred : Stmt := top 50
abbrev sl_hidden : Stmt := top 51
abbrev sl_lot : Stmt := top 52
abbrev sl_leak : Stmt := top 53
abbrev sl_lets : Stmt := top 54
abbrev sl_kept : Stmt := top 55
abbrev sl_mended : Stmt := top 56
abbrev sl_world : Stmt := top 57
abbrev sl_equal : Stmt := top 58
abbrev sl_ordered : Stmt := top 59
abbrev s_law : Stmt := top 60
abbrev sParty_Init : Stmt := inClass (top 32) 0
abbrev sParty_people : Stmt := inClass (top 32) 1
abbrev sParty_may : Stmt := inClass (top 32) 3
abbrev sParty_In : Stmt := inClass (top 32) 7
abbrev sEvening_Init : Stmt := inClass (top 34) 0
abbrev sEvening_offers : Stmt := inClass (top 34) 1
abbrev sEvening_may_take : Stmt := inClass (top 34) 2
abbrev sEvening_undo : Stmt := inClass (top 34) 4
abbrev sEvening_Call : Stmt := inClass (top 34) 8
abbrev sEvening_Len : Stmt := inClass (top 34) 9
abbrev sEvening_In : Stmt := inClass (top 34) 10
abbrev sBook_Init : Stmt := inClass (top 41) 0
abbrev sBook_party : Stmt := inClass (top 41) 1
abbrev sBook_rows : Stmt := inClass (top 41) 3
end G
set_option Elab.async false
set_option linter.all false
set_option maxRecDepth 100000
set_option maxHeartbeats 4000000
namespace L2
open PySem PySem.Spec PyProof.Rows
section
variable {X : Cx} {CX : CXT} {k : Nat} {C g : Addr} {fd : FuncData} {ps : List Str} {sp : Sp} {E : XK}
def rOwnIn (C : Addr) (sp : Sp) (E : XK) (neg : Bool) : R2 := fun x y H Q => ∃ a dx fs, y = .ref a ∧ H a = some (.ins C dx fs) ∧ sp [y, x] H (fun v H' => ∃ b, v = .bl b ∧ Q (.bl (if neg then !b else b)) H') E
theorem ownIn_run {neg : Bool} {pins : List (Addr × Obj)} {σ : St} {H : Hp} {s : Shared} {x y : V} {v u : Value} {Q : VK} (hm : Meth X.K C "__contains__" g) (F : FnOk X.prog X.w X.K X.mg X.base CX k g fd ps sp) (hr : Room k X.A) (hb : Binds X.K fd ps []) (hx : Passes CX X E)
    (I : Inv X pins σ H s) (rx : RelV x v) (ry : RelV y u) (h : rOwnIn C sp E neg x y H Q) : ∃ a ox od, u = .ref a ∧ PySem.W.InstAt s.heap a ox C od ∧
      wpAny (model X.prog X.w) X.A (call (.ref g) [.ref a, v]) (fun r s' => wpAny (model X.prog X.w) X.A (truthy r) (fun b s'' => EP X pins σ Q (.bool (if neg then !b else b)) s'') X.xe s') X.xe s := by
  obtain ⟨a, dx, fs, rfl, hi, q⟩ := h
  cases (show u = Value.ref a from ry)
  obtain ⟨mA, O, _⟩ := ins_get I.hok hi
  obtain ⟨od, J, _⟩ := O.look
  refine ⟨a, _, _, rfl, J, ?_⟩
  have FR : FnR X.prog X.w X.K X.mg X.base CX k g (fun vs H Q E => sp (vs ++ []) H Q E) := F.raw hb .nil
  refine wpAny_mono (wpAny_call (run_fnR (us := [.ref a, v]) (vs := [.ref a, x]) FR hr hx I (.cons rfl (.cons rx .nil)) q)) (fun r s' z => ?_) fun _ _ z => z
  obtain ⟨r', H', I', rr, b, eb, q'⟩ := z
  subst eb
  cases (show r = Value.bool b from rr)
  exact wpAny_truthy_bool ⟨.bl (if neg then !b else b), H', I', rfl, q'⟩
theorem op_ownIn (hm : Meth X.K C "__contains__" g) (F : FnOk X.prog X.w X.K X.mg X.base CX k g fd ps sp) (hr : Room k X.A) (hb : Binds X.K fd ps []) (hx : Passes CX X E) : OpR X (compareOp .In) (rOwnIn C sp E false) := by
  intro pins s σ H x y v u Q I rx ry h
  obtain ⟨a, ox, od, rfl, J, q⟩ := ownIn_run hm F hr hb hx I rx ry h
  obtain ⟨m, hF⟩ := I.fr
  exact PySem.W.in_K hF I.ok.mod.kin J hm.at_ hm.fn q
theorem op_ownNotIn (hm : Meth X.K C "__contains__" g) (F : FnOk X.prog X.w X.K X.mg X.base CX k g fd ps sp) (hr : Room k X.A) (hb : Binds X.K fd ps []) (hx : Passes CX X E) : OpR X (compareOp .NotIn) (rOwnIn C sp E true) := by
  intro pins s σ H x y v u Q I rx ry h
  obtain ⟨a, ox, od, rfl, J, q⟩ := ownIn_run hm F hr hb hx I rx ry h
  obtain ⟨m, hF⟩ := I.fr
  exact PySem.W.notIn_K hF I.ok.mod.kin J hm.at_ hm.fn q
end

section
variable {X : Cx} {CX : CXT} {k : Nat} {C g : Addr} {fd : FuncData} {ps : List Str} {sp : Sp} {E : XK}
def rOwnLen (C : Addr) (sp : Sp) (E : XK) : List V → Hp → VK → Prop := fun xs H Q => ∃ a dx fs, xs = [.ref a] ∧ H a = some (.ins C dx fs) ∧ sp xs H (fun v H' => ∃ i : Int, v = .int i ∧ 0 ≤ i ∧ i < 2 ^ 63 ∧ Q (.int i) H') E
theorem call_ownLen (hm : Meth X.K C "__len__" g) (F : FnOk X.prog X.w X.K X.mg X.base CX k g fd ps sp) (hr : Room (k + 1) X.A) (hb : Binds X.K fd ps []) (hx : Passes CX X E) : CallR X (.builtin "len") (rOwnLen C sp E) := by
  intro pins s σ H xs us Q I r h
  obtain ⟨a, dx, fs, rfl, hi, q⟩ := h
  obtain ⟨u, rfl, ru⟩ := vals1 r
  cases (show u = Value.ref a from ru)
  obtain ⟨mA, O, _⟩ := ins_get I.hok hi
  obtain ⟨od, J, _⟩ := O.look
  obtain ⟨m, hF⟩ := I.fr
  have FR : FnR X.prog X.w X.K X.mg X.base CX k g (fun vs H Q E => sp (vs ++ []) H Q E) := F.raw hb .nil
  have hr1 : Room k X.A.in1 := hr.in1
  refine PySem.W.len_K hF I.ok.mod.kin J hm.at_ hm.fn (wpAny_mono (wpAny_call (SlX.run_at (us := [.ref a]) (ws := [.ref a]) FR hr1 I.env0.in1 hx I r q)) (fun r s' z => ?_) fun _ _ z => z)
  obtain ⟨r', H', I', rr, i, er, h0, h1, q'⟩ := z
  subst er
  obtain ⟨t, e⟩ := (show ∃ t, r = Value.int i t from rr)
  subst e
  exact ⟨⟨h0, h1⟩, .int i, H', I'.tok _, ⟨_, rfl⟩, q'⟩
end


theorem dset {X : Cx} {pins : List (Addr × Obj)} {σ : St} {H H' : Hp} {s : Shared} {D : Addr} {y z : V} {u r : Value} {E : Value → Shared → Prop} {Q : Unit → Shared → Prop} (hu : X.A.units < cLine) (I : Inv X pins σ H s) (g : DPut H D y z H') (ry : RelV y u) (rz : RelV z r)
    (h : ∀ s', Inv X pins σ H' s' → Q () s') : wpAny (model X.prog X.w) X.A (dictSet D u r) Q E s := by
  rcases g with ⟨kvs, k, e, ey, l, eH⟩ | ⟨kvs, k, b, e, ey, eb, l, eH⟩
  · subst ey eH
    exact d_dictSet I e l ry rz h
  · subst ey eH
    cases (show u = Value.ref b from ry)
    obtain ⟨hz, hd, xs, rel, dd⟩ := dt_of I.hok e
    have hl2 : (putK kvs k z).length ≤ sizeLine := Nat.le_trans (length_putK kvs k z) l
    refine wpAny_dictSet_heap (knd := tupleKind (mixKind X.prog X.w)) (hsz := by rw [← Paired.length rel]; exact hz) hu (key_of I.hok eb) dd fun h' dd' hs => h _ ?_
    obtain ⟨ob, es, ep, q1, q2, q3, q4, _, q5⟩ := dd'
    refine d_write I (by rw [e]; trivial) hs ⟨ob, q1⟩ ⟨hl2, hd, _, (rel.put k eb rz).keeps fun c ys ec => ?_, ob, es, ep, q1, q2, q3, q4, q5⟩
    rw [upd_ne (ne_of ec e (by intro w; cases w))]
    exact ec
def newD : Bool → HO
  | false => .dK []
  | true => .dT []
theorem newD_ok {P : Program} {w : World} {H : Hp} (t : Bool) (h : Heap) (hb : sysModules < h.objs.size) : ObjOk P w H (h.push { cls := .type "dict", data := .dict #[] }) h.objs.size (newD t) := by
  cases t
  · exact dk_empty h hb
  · exact dt_empty h hb
def tDg (t : Bool) (wi : TI) (g : TG) (tt : TT) (tk tv : TE) (vs : List Nat) : TE := fun σ H Q => wi σ H fun J H1 => ∀ D, H1 D = none → ∃ W : Nat → Nat → Hp → Prop, (∃ m, W 0 m (upd H1 D (newD t))) ∧ ∀ i m H, W i m H →
  (J.stop i H ∧ Q (.ref D) H) ∨ (J.go i H ∧ ∃ Nx : Hp → Prop, (∀ H', Nx H' → ∃ m', m' < m ∧ W (i + 1) m' H') ∧ ∀ x H', J.yld i H x H' → g x (wipe σ vs) H' fun σ2 H2 => wipe σ2 vs = wipe σ vs ∧ tt σ2 H2 fun b H3 =>
    if b = true then tk σ2 H3 fun y H4 => tv σ2 H4 fun z H5 => ∃ H6, DPut H5 D y z H6 ∧ Nx H6 else Nx H3)
section
variable {X : Cx} {kx vx tg iter : Expr} {ifs : List Expr} {scope : Scope} {own : List (Str × Nat)} {wi : TI} {g : TG} {tt : TT} {tk tv : TE} {pins : List (Addr × Obj)} {σ : St}
theorem dg_block {t : Bool} {pos : Pos} {s : Shared} {H2 : Hp} {Q : VK} {it : Addr} {fp : List Addr} {tn : Nat → Heap → Prop} {J : It} {Z : Addr → Result → Shared → Prop} (hu : X.A.units < cLine) (hc : X.calm = true) (hN : X.N.Nodup) (ok : BlkOk X.N X.env.scope scope own)
    (hg : ∀ (s : Shared) (H : Hp) (C : Addr) (cl : List (Str × Addr)) (fp : List Addr), PG (X.blk s H scope (compEnvC scope cl C X.env) fp) tg g)
    (ht : ∀ (s : Shared) (H : Hp) (C : Addr) (cl : List (Str × Addr)) (fp : List Addr), PTs (X.blk s H scope (compEnvC scope cl C X.env) fp) ifs tt)
    (hk : ∀ (s : Shared) (H : Hp) (C : Addr) (cl : List (Str × Addr)) (fp : List Addr), PE (X.blk s H scope (compEnvC scope cl C X.env) fp) kx tk)
    (he : ∀ (s : Shared) (H : Hp) (C : Addr) (cl : List (Str × Addr)) (fp : List Addr), PE (X.blk s H scope (compEnvC scope cl C X.env) fp) vx tv)
    (I2 : Inv X pins σ H2 s) (T : Turn X.prog X.w X.K tg J fp it tn) (st : tn 0 s.heap) (ff : ∀ b ∈ fp, FpOk X pins H2 b)
    (q : ∀ D, H2 D = none → ∃ W : Nat → Nat → Hp → Prop, (∃ m, W 0 m (upd H2 D (newD t))) ∧ ∀ i m H, W i m H → (J.stop i H ∧ Q (.ref D) H) ∨ (J.go i H ∧ ∃ Nx : Hp → Prop, (∀ H', Nx H' → ∃ m', m' < m ∧ W (i + 1) m' H') ∧
      ∀ x H', J.yld i H x H' → g x (wipe σ (own.map (·.2))) H' fun σ2 H2 => wipe σ2 (own.map (·.2)) = wipe σ (own.map (·.2)) ∧ tt σ2 H2 fun b H3 => if b = true then tk σ2 H3 fun y H4 => tv σ2 H4 fun z H5 => ∃ H6, DPut H5 D y z H6 ∧ Nx H6 else Nx H3))
    (hZ : ∀ s' m H', Inv X pins σ H' s' → Q (.ref s.heap.objs.size) H' → s'.heap.Ns (s.heap.objs.size + 1) m → FpOk X pins H' (s.heap.objs.size + 1) → Z (s.heap.objs.size + 1) (.ok .next) s') :
    codeAny (model X.prog X.w) X.A (.compStart (.DictComp kx vx [⟨tg, iter, ifs, 0⟩] scope pos) 0 (.ref it) (.ref s.heap.objs.size) (compEnvC scope (cellsFrom (s.heap.objs.size + 1 + 1) scope.names (cloFrom X.env.cells scope.names [])) (s.heap.objs.size + 1) X.env)) (Z (s.heap.objs.size + 1))
      { s with heap := pushCells ((s.heap.push { cls := .type "dict", data := .dict #[] }).push { cls := .type "dict", data := .dict #[] }) scope.names } := by
  have nD : H2 s.heap.objs.size = none := I2.hok.fresh (Nat.le_refl _)
  obtain ⟨W, ⟨m0, w0⟩, turn⟩ := q s.heap.objs.size nD
  have I3 : Inv X pins σ (upd H2 s.heap.objs.size (newD t)) { s with heap := s.heap.push { cls := .type "dict", data := .dict #[] } } :=
    I2.laid (t' := s.toks) (fun b o e => Heap.get?_push_of_some _ e) (Nat.le_refl _) (newD_ok t s.heap I2.big)
  have sz : (s.heap.push { cls := .type "dict", data := .dict #[] }).objs.size = s.heap.objs.size + 1 := Heap.size_push ..
  have small : ∀ b ∈ fp, b < s.heap.objs.size := fun b hb => let ⟨o, e, _⟩ := T.obj _ _ st b hb; Heap.lt_size e
  have f3 : ∀ b ∈ fp, FpOk X pins (upd H2 s.heap.objs.size (newD t)) b ∧ b < (s.heap.push { cls := .type "dict", data := .dict #[] }).objs.size := fun b hb => by
    have l := small b hb
    refine ⟨⟨?_, (ff b hb).2⟩, by rw [sz]; exact Nat.lt_succ_of_lt l⟩
    rw [upd_ne (Nat.ne_of_lt l)]
    exact (ff b hb).1
  generalize e3 : ({ s with heap := s.heap.push { cls := .type "dict", data := .dict #[] } } : Shared) = s3 at I3
  have h3 : s3.heap = s.heap.push { cls := .type "dict", data := .dict #[] } := by rw [← e3]
  have sz3 : s3.heap.objs.size = s.heap.objs.size + 1 := by rw [h3, sz]
  have f3' : ∀ b ∈ fp, FpOk X pins (upd H2 s.heap.objs.size (newD t)) b ∧ b < s3.heap.objs.size := fun b hb => by rw [h3]; exact f3 b hb
  have I4 := block_start I3 ok hN f3'
  have es4 : ({ s with heap := pushCells ((s.heap.push { cls := .type "dict", data := .dict #[] }).push { cls := .type "dict", data := .dict #[] }) scope.names } : Shared) = { s3 with heap := pushCells (s3.heap.push { cls := .type "dict", data := .dict #[] }) scope.names } := by rw [← e3]
  rw [es4, ← sz3]
  rw [← sz3] at hZ
  have stD : tn 0 s3.heap := T.keep _ _ _ st fun b _ o e => by rw [h3]; exact Heap.get?_push_of_some _ e
  have stB : tn 0 (pushCells (s3.heap.push { cls := .type "dict", data := .dict #[] }) scope.names) := T.keep _ _ _ stD fun b _ o e => pushCells_keeps _ _ _ _ (Heap.get?_push_of_some _ e)
  generalize eH : upd H2 s.heap.objs.size (newD t) = H3 at I3 I4 w0 f3'
  have pg := hg s3 H3 s3.heap.objs.size (cellsFrom (s3.heap.objs.size + 1) scope.names (cloFrom X.env.cells scope.names [])) fp
  have pt := ht s3 H3 s3.heap.objs.size (cellsFrom (s3.heap.objs.size + 1) scope.names (cloFrom X.env.cells scope.names [])) fp
  have pk := hk s3 H3 s3.heap.objs.size (cellsFrom (s3.heap.objs.size + 1) scope.names (cloFrom X.env.cells scope.names [])) fp
  have pe := he s3 H3 s3.heap.objs.size (cellsFrom (s3.heap.objs.size + 1) scope.names (cloFrom X.env.cells scope.names [])) fp
  generalize ec : compEnvC scope (cellsFrom (s3.heap.objs.size + 1) scope.names (cloFrom X.env.cells scope.names [])) s3.heap.objs.size X.env = ce at I4 pg pt pk pe ⊢
  have locC : ce.locals = s3.heap.objs.size := by rw [← ec]; rfl
  have stB : tn 0 ({ s3 with heap := pushCells (s3.heap.push { cls := .type "dict", data := .dict #[] }) scope.names } : Shared).heap := stB
  generalize ({ s3 with heap := pushCells (s3.heap.push { cls := .type "dict", data := .dict #[] }) scope.names } : Shared) = s4 at I4 stB ⊢
  have inB : ∀ {σ' : St} {H' : Hp} {s' : Shared}, Inv (X.blk s3 H3 scope ce fp) [] σ' H' s' → (∀ b ∈ fp, H' b = none) → ∀ b ∈ fp, FpOk (X.blk s3 H3 scope ce fp) [] H' b := fun {σ' H' s'} I' hn b hb =>
    ⟨hn b hb, (I'.ok.exf b hb).1, I'.ok.exfs b hb, .inl hb, fun x c e => (I'.ok.exf b hb).2 x c e, fun p hp => by cases hp⟩
  have behind : ∀ {i n : Nat} {h7 : Heap} {Nx : Hp → Prop} {σ8 : St} {s' : Shared} {H' : Hp}, tn (i + 1) h7 → (∀ H', Nx H' → ∃ m', m' < n ∧ W (i + 1) m' H') → wipe σ8 (own.map (·.2)) = wipe σ (own.map (·.2)) →
      Inv (X.blk s3 H3 scope ce fp) ([] ++ pinsAt fp h7) σ8 H' s' → Nx H' →
      ∃ m, m < n ∧ ∃ i H', Inv (X.blk s3 H3 scope ce fp) [] (wipe σ (own.map (·.2))) H' s' ∧ tn i s'.heap ∧ (∀ b ∈ fp, H' b = none) ∧ W i m H' := fun {i n h7 Nx σ8 s' H'} st7 hNx hw I' nx => by
    obtain ⟨m', lt, w'⟩ := hNx H' nx
    have pin : ∀ b ∈ fp, ∀ o, h7.get? b = some o → s'.heap.get? b = some o ∧ H' b = none := fun b hb o e => by
      have z := I'.pin (b, o) (List.mem_append_right _ (List.mem_append_right _ (mem_pinsAt hb e)))
      exact ⟨z.1, z.2.1⟩
    refine ⟨m', lt, i + 1, H', (I'.unpinned (pins := [])).weak ?_ (fun j v e => ?_), T.keep _ _ _ st7 fun b hb o e => (pin b hb o e).1, fun b hb => ?_, w'⟩
    · rw [← hw, wipe_length]
    · rw [← hw] at e
      exact (wipe_some e).1
    · obtain ⟨o, e, _⟩ := T.obj _ _ st7 b hb
      exact (pin b hb o e).2
  have loop : codeAny (model X.prog X.w) X.A (.compLoop (.DictComp kx vx [⟨tg, iter, ifs, 0⟩] scope pos) 0 (.ref it) (.ref s.heap.objs.size) ce) (Z s3.heap.objs.size) s4 := by
    refine compLoop_anyD (fun n s' => ∃ i H', Inv (X.blk s3 H3 scope ce fp) [] (wipe σ (own.map (·.2))) H' s' ∧ tn i s'.heap ∧ (∀ b ∈ fp, H' b = none) ∧ W i n H') ?_ m0 ⟨0, H3, I4, stB, fun b hb => (f3' b hb).1.1, w0⟩
    rintro n s5 ⟨i, H5, I5, st5, n5, w5⟩
    rcases turn i n H5 w5 with ⟨stop, qq⟩ | ⟨go, Nx, hNx, step⟩
    · refine thnF (T.done (X.blk s3 H3 scope ce fp) rfl rfl rfl hc i [] s5 _ H5 (fun _ _ => False) I5 (inB I5 n5) st5 stop) fun r s6 z => ?_
      obtain ⟨er, I6⟩ := z
      subst er
      have I7 : Inv X pins σ H5 s6 := I3.call' (ch := fp) I6.os I6.base I6.hok I6.bare fun b hb => by
        obtain ⟨_, f1, _, f3, f4, f5⟩ := (f3' b hb).1
        exact ⟨f3, f1, f4, f5⟩
      have free : H5 s3.heap.objs.size = none := by
        rw [← locC]
        exact I6.free
      obtain ⟨m, hn, _⟩ := I6.loc
      exact hZ s6 m H5 I7 qq (by rw [← locC]; exact hn) (I3.fpOk (Nat.le_refl _) free)
    · refine thnF (T.item (X.blk s3 H3 scope ce fp) rfl rfl rfl hc i [] s5 _ H5 (fun _ _ => False) I5 (inB I5 n5) st5 go) fun r s6 z => ?_
      obtain ⟨u, er, h6⟩ := z
      subst er
      refine thnF h6 fun _ s7 z => ?_
      obtain ⟨x, H7, I7, r7, y7, st7, n7⟩ := z
      refine thnF (pg.run _ s7 _ H7 x u _ (I7.pinned (inB I7 n7) (T.obj _ _ st7)) r7 (step x H7 y7)) fun _ s8 z => ?_
      obtain ⟨σ8, H8, I8, hw8, q8⟩ := z
      refine thnF (pt.run _ s8 σ8 H8 _ I8 q8) fun b s9 z => ?_
      obtain ⟨H9, I9, q9⟩ := z
      cases b with
      | false =>
        rw [if_neg Bool.false_ne_true]
        have q9 : Nx H9 := q9
        exact behind st7 hNx hw8 I9 q9
      | true =>
        rw [if_pos rfl]
        have q9 : tk σ8 H9 fun y H4 => tv σ8 H4 fun z H5 => ∃ H6, DPut H5 s.heap.objs.size y z H6 ∧ Nx H6 := q9
        refine thnF (pk.run _ s9 σ8 H9 _ I9 q9) fun kv s10 z => ?_
        obtain ⟨y, H10, I10, r10, q10⟩ := z
        refine thnF (pe.run _ s10 σ8 H10 _ I10 q10) fun vv s11 z => ?_
        obtain ⟨yv, H11, I11, r11, H12, dp, nx⟩ := z
        exact dset (X := X.blk s3 H3 scope ce fp) hu I11 dp r10 r11 fun s12 I12 => behind st7 hNx hw8 I12 nx
  exact codeAny_compStart_dict loop (T.self X.A 0 _ _ _ stB loop)

theorem dg_core {t : Bool} {pos pos' : Pos} {s : Shared} {H : Hp} {Q : VK} {use : Option (Value → Sem Unit)} {Qf : Value → Shared → Prop} (hu : X.A.units < cLine) (hc : X.calm = true) (hN : X.N.Nodup) (I : Inv X pins σ H s) (hi : PI X tg iter wi) (ok : BlkOk X.N X.env.scope scope own)
    (hg : ∀ (s : Shared) (H : Hp) (C : Addr) (cl : List (Str × Addr)) (fp : List Addr), PG (X.blk s H scope (compEnvC scope cl C X.env) fp) tg g)
    (ht : ∀ (s : Shared) (H : Hp) (C : Addr) (cl : List (Str × Addr)) (fp : List Addr), PTs (X.blk s H scope (compEnvC scope cl C X.env) fp) ifs tt)
    (hk : ∀ (s : Shared) (H : Hp) (C : Addr) (cl : List (Str × Addr)) (fp : List Addr), PE (X.blk s H scope (compEnvC scope cl C X.env) fp) kx tk)
    (he : ∀ (s : Shared) (H : Hp) (C : Addr) (cl : List (Str × Addr)) (fp : List Addr), PE (X.blk s H scope (compEnvC scope cl C X.env) fp) vx tv) (hs : ∀ x, foldedSetIterable iter X.env x = pure x)
    (h : tDg t wi g tt tk tv (own.map (·.2)) σ H Q)
    (hZ : ∀ D C s' m H', Inv X pins σ H' s' → Q (.ref D) H' → s'.heap.Ns C m → FpOk X pins H' C → compPost (model X.prog X.w) X.A X.xe use Qf (.ref D) C (.ok .next) s') :
    wpAny (model X.prog X.w) X.A (comprehension (.DictComp kx vx [⟨tg, iter, ifs, 0⟩] scope pos) scope X.env pos' newDict false (eval iter X.env) use) Qf X.xe s := by
  have cells : ∀ y ∈ scope.names, y.2 = .free → ∃ c, X.env.cells.lookup y.1 = some c := fun y hy e => (ok.free y hy e).elim (fun z => I.ok.has _ (.inl z)) fun z => I.ok.has _ (.inr z)
  refine wpAny_comprehension_free (use := use) rfl hs (closure_ok cells) ok.kind (fun y hy e => (ok.uniq y hy).trans (congrArg some e)) (thn (hi.run pins s σ H _ I h) fun xv s1 hx => thn hx fun itv s2 z => ?_)
  obtain ⟨it, fp, tn, J, H2, e, I2, T, st, ff, q⟩ := z
  subst e
  refine wpAny_newObj_type (newEnv_comp ?_)
  have z := dg_block (iter := iter) (t := t) (pos := pos) (Z := fun C r s' => compPost (model X.prog X.w) X.A X.xe use Qf (.ref s2.heap.objs.size) C r s') hu hc hN ok hg ht hk he I2 T st ff q fun s' m H' I' q' hn f => hZ _ _ s' m H' I' q' hn f
  have sz : (s2.heap.push { cls := .type "dict", data := .dict #[] }).objs.size = s2.heap.objs.size + 1 := Heap.size_push ..
  show codeAny _ _ (.compStart (.DictComp kx vx [⟨tg, iter, ifs, 0⟩] scope pos) 0 (.ref it) (.ref s2.heap.objs.size) (compEnvC scope (cellsFrom ((s2.heap.push { cls := .type "dict", data := .dict #[] }).objs.size + 1) scope.names (cloFrom X.env.cells scope.names [])) (s2.heap.push { cls := .type "dict", data := .dict #[] }).objs.size X.env)) (compPost (model X.prog X.w) X.A X.xe use Qf (.ref s2.heap.objs.size) (s2.heap.push { cls := .type "dict", data := .dict #[] }).objs.size) _
  rw [sz]
  exact z
end
section
variable {X : Cx} {kx vx tg iter : Expr} {ifs : List Expr} {scope : Scope} {own : List (Str × Nat)} {wi : TI} {g : TG} {tt : TT} {tk tv : TE}
theorem pe_dg (t : Bool) {pos : Pos} (hu : X.A.units < cLine) (hc : X.calm = true) (hN : X.N.Nodup) (hi : PI X tg iter wi) (ok : BlkOk X.N X.env.scope scope own)
    (hg : ∀ (s : Shared) (H : Hp) (C : Addr) (cl : List (Str × Addr)) (fp : List Addr), PG (X.blk s H scope (compEnvC scope cl C X.env) fp) tg g)
    (ht : ∀ (s : Shared) (H : Hp) (C : Addr) (cl : List (Str × Addr)) (fp : List Addr), PTs (X.blk s H scope (compEnvC scope cl C X.env) fp) ifs tt)
    (hk : ∀ (s : Shared) (H : Hp) (C : Addr) (cl : List (Str × Addr)) (fp : List Addr), PE (X.blk s H scope (compEnvC scope cl C X.env) fp) kx tk)
    (he : ∀ (s : Shared) (H : Hp) (C : Addr) (cl : List (Str × Addr)) (fp : List Addr), PE (X.blk s H scope (compEnvC scope cl C X.env) fp) vx tv) (hs : ∀ x, foldedSetIterable iter X.env x = pure x := by intro _; rfl) :
    PE X (.DictComp kx vx [⟨tg, iter, ifs, 0⟩] scope pos) (tDg t wi g tt tk tv (own.map (·.2))) := by
  refine ⟨fun pins s σ H Q I h => ?_⟩
  rw [arm_eval_DictComp]
  refine dg_core hu hc hN I hi ok hg ht hk he hs h fun D C s' m H' I' q hn f => ⟨m, hn, fun h'' sb => ?_⟩
  obtain ⟨f0, f1, _, f3, f4, f5⟩ := f
  exact ⟨.ref D, H', I'.turned (t' := s'.toks) (fun b o hb e => (sb.2 b hb).trans e) f0 f1 f3 f4 f5, rfl, q⟩
theorem ps_setDg (t : Bool) {i : Nat} {y : Str} {py pos spos : Pos} (hu : X.A.units < cLine) (hc : X.calm = true) (hN : X.N.Nodup) (hy : X.N[i]? = some y) (hyl : X.env.scope.names.lookup y = some .local)
    (hsw : swapsWith (.DictComp kx vx [⟨tg, iter, ifs, 0⟩] scope pos) (some (.Name y py)) spos.line X.env = pure true) (hi : PI X tg iter wi) (ok : BlkOk X.N X.env.scope scope own)
    (hg : ∀ (s : Shared) (H : Hp) (C : Addr) (cl : List (Str × Addr)) (fp : List Addr), PG (X.blk s H scope (compEnvC scope cl C X.env) fp) tg g)
    (ht : ∀ (s : Shared) (H : Hp) (C : Addr) (cl : List (Str × Addr)) (fp : List Addr), PTs (X.blk s H scope (compEnvC scope cl C X.env) fp) ifs tt)
    (hk : ∀ (s : Shared) (H : Hp) (C : Addr) (cl : List (Str × Addr)) (fp : List Addr), PE (X.blk s H scope (compEnvC scope cl C X.env) fp) kx tk)
    (he : ∀ (s : Shared) (H : Hp) (C : Addr) (cl : List (Str × Addr)) (fp : List Addr), PE (X.blk s H scope (compEnvC scope cl C X.env) fp) vx tv) (hs : ∀ x, foldedSetIterable iter X.env x = pure x := by intro _; rfl) :
    PS X (.Assign [.Name y py] (.DictComp kx vx [⟨tg, iter, ifs, 0⟩] scope pos) spos) (tAsg (tDg t wi g tt tk tv (own.map (·.2))) (gName i)) := by
  refine ⟨fun pins s σ H D I h => ?_⟩
  rw [exec_Assign_Name_used _ _ _ _ hsw]
  refine wpAny_bind (wpAny_standAt (wpAny_bind ?_))
  have h : tDg t wi g tt tk tv (own.map (·.2)) σ H (fun x H1 => D.nx (σ.set i (some x)) H1) := h
  show wpAny _ X.A (do let _ ← comprehension (.DictComp kx vx [⟨tg, iter, ifs, 0⟩] scope pos) scope X.env (firstIterPos [⟨tg, iter, ifs, 0⟩] pos) newDict false (eval iter X.env) (some (assign (.Name y py) X.env))) _ _ s
  refine wpAny_bind (thn (dg_core (Qf := fun _ s' => SP X pins D .next s') hu hc hN I hi ok hg ht hk he hs h fun L C s' m H' I' q hn f => ?_) fun _ s' hq => wpAny_pure (wpAny_pure hq))
  obtain ⟨f0, f1, _, f3, f4, f5⟩ := f
  show wpAny _ _ (assign (.Name y py) X.env (.ref L)) _ _ _
  refine wpAny_assign_Name (store_ok2 (v := V.ref L) I' hN hy (.inl hyl) rfl (fun s2 I2 z => ?_) (.inr hyl))
  obtain ⟨a, sb, ha⟩ := z
  have ne : C ≠ a := ha.elim (fun e => e ▸ f1) fun e z => f4 y a e z.symm
  exact ⟨m, hn.sameBut sb ne, fun h3 sb3 => ⟨_, H', I2.turned (t' := s2.toks) (fun b o hb e => (sb3.2 b hb).trans e) f0 f1 f3 f4 f5, q⟩⟩
theorem swD_true {elt e2 : Expr} {gs : List Comprehension} {scope : Scope} {pos py : Pos} {y : Str} {l : Nat} {env : Env} (hk : env.scope.kind = .function) (hy : env.scope.names.lookup y = some .local) (hl : (py.line == pos.line) = true)
    (ha : (scope.names.any fun (n, k) => n == y && (k == .local || k == .cell)) = false) : swapsWith (.DictComp elt e2 gs scope pos) (some (.Name y py)) l env = pure true := by
  have k1 : env.kindOf y = some .local := hy
  have k2 : env.blockKind = .function := by
    unfold Env.blockKind
    rw [hk] <;> rfl
  unfold swapsWith
  simp only [k1, k2, ha, Expr.pos, hl]
  rfl
end
theorem dg_turns {t : Bool} {J : It} {g : TG} {tt : TT} {tk tv : TE} {vs : List Nat} {σ : St} {H1 : Hp} {D : Addr} {Qd : Hp → Prop} (n : Nat) (Pv : Nat → Hp → Prop) (h0 : Pv 0 (upd H1 D (newD t))) (hgo : ∀ i H, i < n → Pv i H → J.go i H) (hst : ∀ H, Pv n H → J.stop n H)
    (hs : ∀ i H, i < n → Pv i H → ∀ x H', J.yld i H x H' → g x (wipe σ vs) H' fun σ2 H2 => wipe σ2 vs = wipe σ vs ∧ tt σ2 H2 fun b H3 =>
      if b = true then tk σ2 H3 fun y H4 => tv σ2 H4 fun z H5 => ∃ H6, DPut H5 D y z H6 ∧ Pv (i + 1) H6 else Pv (i + 1) H3) (hd : ∀ H, Pv n H → Qd H) :
    ∃ W : Nat → Nat → Hp → Prop, (∃ m, W 0 m (upd H1 D (newD t))) ∧ ∀ i m H, W i m H →
      (J.stop i H ∧ Qd H) ∨ (J.go i H ∧ ∃ Nx : Hp → Prop, (∀ H', Nx H' → ∃ m', m' < m ∧ W (i + 1) m' H') ∧ ∀ x H', J.yld i H x H' → g x (wipe σ vs) H' fun σ2 H2 => wipe σ2 vs = wipe σ vs ∧ tt σ2 H2 fun b H3 =>
        if b = true then tk σ2 H3 fun y H4 => tv σ2 H4 fun z H5 => ∃ H6, DPut H5 D y z H6 ∧ Nx H6 else Nx H3) := by
  refine ⟨fun i m H => m = n - i ∧ i ≤ n ∧ Pv i H, ⟨n, by simp, Nat.zero_le _, h0⟩, ?_⟩
  rintro i m H ⟨rfl, hi, p⟩
  by_cases lt : i < n
  · exact .inr ⟨hgo i H lt p, Pv (i + 1), fun H' p' => ⟨n - (i + 1), by omega, rfl, lt, p'⟩, fun x H' y => hs i H lt p x H' y⟩
  · have e : i = n := by omega
    subst e
    exact .inl ⟨hst H p, hd H p⟩
theorem lc_turns {J : It} {g : TG} {tt : TT} {te : TE} {vs : List Nat} {σ : St} {H1 : Hp} {D : Addr} {Qd : Hp → Prop} (n : Nat) (Pv : Nat → Hp → Prop) (h0 : Pv 0 (upd H1 D (.lst []))) (hgo : ∀ i H, i < n → Pv i H → J.go i H) (hst : ∀ H, Pv n H → J.stop n H)
    (hs : ∀ i H, i < n → Pv i H → ∀ x H', J.yld i H x H' → g x (wipe σ vs) H' fun σ2 H2 => wipe σ2 vs = wipe σ vs ∧ tt σ2 H2 fun b H3 =>
      if b = true then te σ2 H3 fun y H4 => ∃ acc, H4 D = some (.lst acc) ∧ acc.length < sizeLine ∧ Pv (i + 1) (upd H4 D (.lst (acc ++ [y]))) else Pv (i + 1) H3) (hd : ∀ H, Pv n H → Qd H) :
    ∃ W : Nat → Nat → Hp → Prop, (∃ m, W 0 m (upd H1 D (.lst []))) ∧ ∀ i m H, W i m H →
      (J.stop i H ∧ Qd H) ∨ (J.go i H ∧ ∃ Nx : Hp → Prop, (∀ H', Nx H' → ∃ m', m' < m ∧ W (i + 1) m' H') ∧ ∀ x H', J.yld i H x H' → g x (wipe σ vs) H' fun σ2 H2 => wipe σ2 vs = wipe σ vs ∧ tt σ2 H2 fun b H3 =>
        if b = true then te σ2 H3 fun y H4 => ∃ acc, H4 D = some (.lst acc) ∧ acc.length < sizeLine ∧ Nx (upd H4 D (.lst (acc ++ [y]))) else Nx H3) := by
  refine ⟨fun i m H => m = n - i ∧ i ≤ n ∧ Pv i H, ⟨n, by simp, Nat.zero_le _, h0⟩, ?_⟩
  rintro i m H ⟨rfl, hi, p⟩
  by_cases lt : i < n
  · exact .inr ⟨hgo i H lt p, Pv (i + 1), fun H' p' => ⟨n - (i + 1), by omega, rfl, lt, p'⟩, fun x H' y => hs i H lt p x H' y⟩
  · have e : i = n := by omega
    subst e
    exact .inl ⟨hst H p, hd H p⟩
theorem for_turns {J : It} {g : TG} {tb : TS} {D : Ends} {σ : St} {H : Hp} (n : Nat) (Pv : Nat → St → Hp → Prop) (h0 : Pv 0 σ H) (hgo : ∀ i σ H, i < n → Pv i σ H → J.go i H) (hst : ∀ σ H, Pv n σ H → J.stop n H)
    (hs : ∀ i σ H, i < n → Pv i σ H → ∀ x H', J.yld i H x H' → g x σ H' fun σ2 H2 => tb { D with nx := Pv (i + 1), ct := Pv (i + 1), bk := D.nx } σ2 H2) (hd : ∀ σ H, Pv n σ H → D.nx σ H) :
    ∃ W : Nat → Nat → St → Hp → Prop, (∃ m, W 0 m σ H) ∧ ∀ i m σ H, W i m σ H →
      (J.stop i H ∧ D.nx σ H) ∨ (J.go i H ∧ ∃ N : St → Hp → Prop, (∀ σ' H', N σ' H' → ∃ m', m' < m ∧ W (i + 1) m' σ' H') ∧ ∀ x H', J.yld i H x H' → g x σ H' fun σ2 H2 => tb { D with nx := N, ct := N, bk := D.nx } σ2 H2) := by
  refine ⟨fun i m σ H => m = n - i ∧ i ≤ n ∧ Pv i σ H, ⟨n, by simp, Nat.zero_le _, h0⟩, ?_⟩
  rintro i m σ H ⟨rfl, hi, p⟩
  by_cases lt : i < n
  · exact .inr ⟨hgo i σ H lt p, Pv (i + 1), fun σ' H' p' => ⟨n - (i + 1), by omega, rfl, lt, p'⟩, fun x H' y => hs i σ H lt p x H' y⟩
  · have e : i = n := by omega
    subst e
    exact .inl ⟨hst σ H p, hd σ H p⟩
end L2
set_option Elab.async false
set_option linter.all false
set_option maxRecDepth 100000
set_option maxHeartbeats 4000000
namespace G
open PySem PySem.Spec PyProof.Rows L2
def d_seek : He.DefD := ⟨("seek", none), "seek", "seek", defArgs s_seek, defBody s_seek, defScope s_seek, [], []⟩
def d_paired : He.DefD := ⟨("paired", none), "paired", "paired", defArgs s_paired, defBody s_paired, defScope s_paired, [], []⟩
def d_owners_of : He.DefD := ⟨("owners_of", none), "owners_of", "owners_of", defArgs s_owners_of, defBody s_owners_of, defScope s_owners_of, [], []⟩
def d_reached : He.DefD := ⟨("reached", none), "reached", "reached", defArgs s_reached, defBody s_reached, defScope s_reached, [], []⟩
def d_table_rows : He.DefD := ⟨("table_rows", none), "table_rows", "table_rows", defArgs s_table_rows, defBody s_table_rows, defScope s_table_rows, [], []⟩
def d_fixed : He.DefD := ⟨("fixed", none), "fixed", "fixed", defArgs s_fixed, defBody s_fixed, defScope s_fixed, [], []⟩
def d_is_name : He.DefD := ⟨("is_name", none), "is_name", "is_name", defArgs s_is_name, defBody s_is_name, defScope s_is_name, [], []⟩
def d_is_person : He.DefD := ⟨("is_person", none), "is_person", "is_person", defArgs s_is_person, defBody s_is_person, defScope s_is_person, [], []⟩
def d_are_different : He.DefD := ⟨("are_different", none), "are_different", "are_different", defArgs s_are_different, defBody s_are_different, defScope s_are_different, [], []⟩
def d_is_pair : He.DefD := ⟨("is_pair", none), "is_pair", "is_pair", defArgs s_is_pair, defBody s_is_pair, defScope s_is_pair, [], []⟩
def d_check_people : He.DefD := ⟨("check_people", none), "check_people", "check_people", defArgs s_check_people, defBody s_check_people, defScope s_check_people, [], []⟩
def d_check_pairs : He.DefD := ⟨("check_pairs", none), "check_pairs", "check_pairs", defArgs s_check_pairs, defBody s_check_pairs, defScope s_check_pairs, [], []⟩
def d_check_name : He.DefD := ⟨("check_name", none), "check_name", "check_name", defArgs s_check_name, defBody s_check_name, defScope s_check_name, [], []⟩
def d_is_lot : He.DefD := ⟨("is_lot", none), "is_lot", "is_lot", defArgs s_is_lot, defBody s_is_lot, defScope s_is_lot, [], []⟩
def d_is_leak : He.DefD := ⟨("is_leak", none), "is_leak", "is_leak", defArgs s_is_leak, defBody s_is_leak, defScope s_is_leak, [], []⟩
def d_lets : He.DefD := ⟨("lets", none), "lets", "lets", defArgs s_lets, defBody s_lets, defScope s_lets, [], []⟩
def d_all_let : He.DefD := ⟨("all_let", none), "all_let", "all_let", defArgs s_all_let, defBody s_all_let, defScope s_all_let, [], []⟩
def d_drawing : He.DefD := ⟨("drawing", none), "drawing", "drawing", defArgs s_drawing, defBody s_drawing, defScope s_drawing, [], []⟩
def d_first : He.DefD := ⟨("first", none), "first", "first", defArgs s_first, defBody s_first, defScope s_first, [], []⟩
def d_table : He.DefD := ⟨("table", none), "table", "table", defArgs s_table, defBody s_table, defScope s_table, [], []⟩
def dl_cell : He.DefD := ⟨("_law_cell", none), "_law_cell", "_law_cell", defArgs sl_cell, defBody sl_cell, defScope sl_cell, [], []⟩
def dl_draws : He.DefD := ⟨("_law_draws", none), "_law_draws", "_law_draws", defArgs sl_draws, defBody sl_draws, defScope sl_draws, [], []⟩
def dl_people : He.DefD := ⟨("_law_people", none), "_law_people", "_law_people", defArgs sl_people, defBody sl_people, defScope sl_people, [], []⟩
def dl_barred : He.DefD := ⟨("_law_barred", none), "_law_barred", "_law_barred", defArgs sl_barred, defBody sl_barred, defScope sl_barred, [], []⟩
def dl_hidden : He.DefD := ⟨("_law_hidden", none), "_law_hidden", "_law_hidden", defArgs sl_hidden, defBody sl_hidden, defScope sl_hidden, [], []⟩
def dl_lot : He.DefD := ⟨("_law_lot", none), "_law_lot", "_law_lot", defArgs sl_lot, defBody sl_lot, defScope sl_lot, [], []⟩
def dl_leak : He.DefD := ⟨("_law_leak", none), "_law_leak", "_law_leak", defArgs sl_leak, defBody sl_leak, defScope sl_leak, [], []⟩
def dl_lets : He.DefD := ⟨("_law_lets", none), "_law_lets", "_law_lets", defArgs sl_lets, defBody sl_lets, defScope sl_lets, [], []⟩
def dl_kept : He.DefD := ⟨("_law_kept", none), "_law_kept", "_law_kept", defArgs sl_kept, defBody sl_kept, defScope sl_kept, [], []⟩
def dl_mended : He.DefD := ⟨("_law_mended", none), "_law_mended", "_law_mended", defArgs sl_mended, defBody sl_mended, defScope sl_mended, [], []⟩
def dl_world : He.DefD := ⟨("_law_world", none), "_law_world", "_law_world", defArgs sl_world, defBody sl_world, defScope sl_world, [], []⟩
def dl_equal : He.DefD := ⟨("_law_equal", none), "_law_equal", "_law_equal", defArgs sl_equal, defBody sl_equal, defScope sl_equal, [], []⟩
def dl_ordered : He.DefD := ⟨("_law_ordered", none), "_law_ordered", "_law_ordered", defArgs sl_ordered, defBody sl_ordered, defScope sl_ordered, [], []⟩
def d_law : He.DefD := ⟨("law", none), "law", "law", defArgs s_law, defBody s_law, defScope s_law, [], []⟩
def dParty_Init : He.DefD := ⟨("Party", some "__init__"), "__init__", "Party.__init__", defArgs sParty_Init, defBody sParty_Init, defScope sParty_Init, [], []⟩
def dParty_people : He.DefD := ⟨("Party", some "people"), "people", "Party.people", defArgs sParty_people, defBody sParty_people, defScope sParty_people, [], []⟩
def dParty_may : He.DefD := ⟨("Party", some "may"), "may", "Party.may", defArgs sParty_may, defBody sParty_may, defScope sParty_may, [], []⟩
def dParty_In : He.DefD := ⟨("Party", some "__contains__"), "__contains__", "Party.__contains__", defArgs sParty_In, defBody sParty_In, defScope sParty_In, [], []⟩
def dEvening_Init : He.DefD := ⟨("Evening", some "__init__"), "__init__", "Evening.__init__", defArgs sEvening_Init, defBody sEvening_Init, defScope sEvening_Init, [], []⟩
def dEvening_offers : He.DefD := ⟨("Evening", some "_offers"), "_offers", "Evening._offers", defArgs sEvening_offers, defBody sEvening_offers, defScope sEvening_offers, [], []⟩
def dEvening_may_take : He.DefD := ⟨("Evening", some "may_take"), "may_take", "Evening.may_take", defArgs sEvening_may_take, defBody sEvening_may_take, defScope sEvening_may_take, [], []⟩
def dEvening_undo : He.DefD := ⟨("Evening", some "undo"), "undo", "Evening.undo", defArgs sEvening_undo, defBody sEvening_undo, defScope sEvening_undo, [], []⟩
def dEvening_Call : He.DefD := ⟨("Evening", some "__call__"), "__call__", "Evening.__call__", defArgs sEvening_Call, defBody sEvening_Call, defScope sEvening_Call, [], []⟩
def dEvening_Len : He.DefD := ⟨("Evening", some "__len__"), "__len__", "Evening.__len__", defArgs sEvening_Len, defBody sEvening_Len, defScope sEvening_Len, [], []⟩
def dEvening_In : He.DefD := ⟨("Evening", some "__contains__"), "__contains__", "Evening.__contains__", defArgs sEvening_In, defBody sEvening_In, defScope sEvening_In, [], []⟩
def dBook_Init : He.DefD := ⟨("Book", some "__init__"), "__init__", "Book.__init__", defArgs sBook_Init, defBody sBook_Init, defScope sBook_Init, [], []⟩
def dBook_party : He.DefD := ⟨("Book", some "party"), "party", "Book.party", defArgs sBook_party, defBody sBook_party, defScope sBook_party, [], []⟩
def dBook_rows : He.DefD := ⟨("Book", some "rows"), "rows", "Book.rows", defArgs sBook_rows, defBody sBook_rows, defScope sBook_rows, [], []⟩
def fn : List He.DefD := [d_seek, d_paired, d_owners_of, d_reached, d_table_rows, d_fixed, d_is_name, d_is_person, d_are_different, d_is_pair, d_check_people, d_check_pairs, d_check_name, d_is_lot, d_is_leak, d_lets, d_all_let, d_drawing, d_first, d_table, dl_cell, dl_draws, dl_people, dl_barred, dl_hidden, dl_lot, dl_leak, dl_lets, dl_kept, dl_mended, dl_world, dl_equal, dl_ordered, d_law, dParty_Init, dParty_people, dParty_may, dParty_In, dEvening_Init, dEvening_offers, dEvening_may_take, dEvening_undo, dEvening_Call, dEvening_Len, dEvening_In, dBook_Init, dBook_party, dBook_rows]
def fa0 : List He.Fa := [.glo "seek", .glo "paired", .glo "owners_of", .glo "reached", .glo "table_rows", .glo "fixed", .glo "is_name", .glo "is_person", .glo "are_different", .glo "is_pair", .glo "check_people", .glo "check_pairs", .glo "check_name", .glo "is_lot", .glo "is_leak", .glo "lets", .glo "all_let", .glo "drawing", .glo "first", .glo "table"]
def fa1 : List He.Fa := [.glo "_law_cell", .glo "_law_draws", .glo "_law_people", .glo "_law_barred", .glo "_law_hidden", .glo "_law_lot", .glo "_law_leak", .glo "_law_lets", .glo "_law_kept", .glo "_law_mended", .glo "_law_world", .glo "_law_equal", .glo "_law_ordered", .glo "law", .glo "Party", .cls "Party", .mkr "Party", .meth "Party" "people", .meth "Party" "may", .meth "Party" "__contains__"]
def fa2 : List He.Fa := [.glo "Evening", .cls "Evening", .mkr "Evening", .meth "Evening" "_offers", .meth "Evening" "may_take", .meth "Evening" "undo", .meth "Evening" "__call__", .meth "Evening" "__len__", .meth "Evening" "__contains__", .glo "Book", .cls "Book", .mkr "Book", .meth "Book" "party", .meth "Book" "rows", .noat "Party" "_people", .noat "Party" "_closed", .noat "Evening" "_rows", .noat "Evening" "_people", .noat "Evening" "_taken", .noat "Evening" "_kept"]
def fa3 : List He.Fa := [.noat "Evening" "_inside", .noat "Book" "_party", .noat "Book" "_leaks", .noat "Book" "_rows", .int "MOST_PEOPLE" 24, .int "MOST_BARRED" 600, .int "MOST_LEAKS" 40, .str "LETTERS" "abcdefghijklmnopqrstuvwxyz", .free "isinstance", .free "len", .free "tuple", .free "str", .free "list", .free "int", .free "dict", .free "bool", .free "range", .free "enumerate", .free "sorted", .free "all"]
def fa : List He.Fa := fa0 ++ fa1 ++ fa2 ++ fa3
structure Tx (K : PySem.W.Frag) (mg : Str → Option Value) : Prop where
  says : He.SaysD fa fn K
  hp : ∃ h : Heap, K.In h ∧ h.Ns mainGlobals mg
theorem fun_of {K : PySem.W.Frag} {x q : Str} {st : Stmt} {f : Addr} {fd : FuncData} (F : FunD K x q (defArgs st) (defBody st) (defScope st) [] [] f fd) : L2.Fun K x q st f fd := by
  obtain ⟨oc, od, dV, kV, doc, pm, an, cdv, ct, osl, e, lk, hcd, hD, hK⟩ := F.ex
  rcases hD with ⟨_, z⟩ | ⟨z, _⟩
  · subst z
    exact ⟨⟨oc, od, kV, doc, pm, an, cdv, ct, osl, e, lk, hcd⟩, F.kp⟩
  · exact absurd rfl z
section
variable {K : PySem.W.Frag} {mg : Str → Option Value}
theorem Tx.g_seek (T : Tx K mg) : mg "seek" = some (.ref (He.ga K "seek")) := let ⟨h, X, N⟩ := T.hp; He.glo_ok X N (T.says.fact 0 (f := .glo "seek") rfl)
theorem Tx.g_paired (T : Tx K mg) : mg "paired" = some (.ref (He.ga K "paired")) := let ⟨h, X, N⟩ := T.hp; He.glo_ok X N (T.says.fact 1 (f := .glo "paired") rfl)
theorem Tx.g_owners_of (T : Tx K mg) : mg "owners_of" = some (.ref (He.ga K "owners_of")) := let ⟨h, X, N⟩ := T.hp; He.glo_ok X N (T.says.fact 2 (f := .glo "owners_of") rfl)
theorem Tx.g_reached (T : Tx K mg) : mg "reached" = some (.ref (He.ga K "reached")) := let ⟨h, X, N⟩ := T.hp; He.glo_ok X N (T.says.fact 3 (f := .glo "reached") rfl)
theorem Tx.g_table_rows (T : Tx K mg) : mg "table_rows" = some (.ref (He.ga K "table_rows")) := let ⟨h, X, N⟩ := T.hp; He.glo_ok X N (T.says.fact 4 (f := .glo "table_rows") rfl)
theorem Tx.g_fixed (T : Tx K mg) : mg "fixed" = some (.ref (He.ga K "fixed")) := let ⟨h, X, N⟩ := T.hp; He.glo_ok X N (T.says.fact 5 (f := .glo "fixed") rfl)
theorem Tx.g_is_name (T : Tx K mg) : mg "is_name" = some (.ref (He.ga K "is_name")) := let ⟨h, X, N⟩ := T.hp; He.glo_ok X N (T.says.fact 6 (f := .glo "is_name") rfl)
theorem Tx.g_is_person (T : Tx K mg) : mg "is_person" = some (.ref (He.ga K "is_person")) := let ⟨h, X, N⟩ := T.hp; He.glo_ok X N (T.says.fact 7 (f := .glo "is_person") rfl)
theorem Tx.g_are_different (T : Tx K mg) : mg "are_different" = some (.ref (He.ga K "are_different")) := let ⟨h, X, N⟩ := T.hp; He.glo_ok X N (T.says.fact 8 (f := .glo "are_different") rfl)
theorem Tx.g_is_pair (T : Tx K mg) : mg "is_pair" = some (.ref (He.ga K "is_pair")) := let ⟨h, X, N⟩ := T.hp; He.glo_ok X N (T.says.fact 9 (f := .glo "is_pair") rfl)
theorem Tx.g_check_people (T : Tx K mg) : mg "check_people" = some (.ref (He.ga K "check_people")) := let ⟨h, X, N⟩ := T.hp; He.glo_ok X N (T.says.fact 10 (f := .glo "check_people") rfl)
theorem Tx.g_check_pairs (T : Tx K mg) : mg "check_pairs" = some (.ref (He.ga K "check_pairs")) := let ⟨h, X, N⟩ := T.hp; He.glo_ok X N (T.says.fact 11 (f := .glo "check_pairs") rfl)
theorem Tx.g_check_name (T : Tx K mg) : mg "check_name" = some (.ref (He.ga K "check_name")) := let ⟨h, X, N⟩ := T.hp; He.glo_ok X N (T.says.fact 12 (f := .glo "check_name") rfl)
theorem Tx.g_is_lot (T : Tx K mg) : mg "is_lot" = some (.ref (He.ga K "is_lot")) := let ⟨h, X, N⟩ := T.hp; He.glo_ok X N (T.says.fact 13 (f := .glo "is_lot") rfl)
theorem Tx.g_is_leak (T : Tx K mg) : mg "is_leak" = some (.ref (He.ga K "is_leak")) := let ⟨h, X, N⟩ := T.hp; He.glo_ok X N (T.says.fact 14 (f := .glo "is_leak") rfl)
theorem Tx.g_lets (T : Tx K mg) : mg "lets" = some (.ref (He.ga K "lets")) := let ⟨h, X, N⟩ := T.hp; He.glo_ok X N (T.says.fact 15 (f := .glo "lets") rfl)
theorem Tx.g_all_let (T : Tx K mg) : mg "all_let" = some (.ref (He.ga K "all_let")) := let ⟨h, X, N⟩ := T.hp; He.glo_ok X N (T.says.fact 16 (f := .glo "all_let") rfl)
theorem Tx.g_drawing (T : Tx K mg) : mg "drawing" = some (.ref (He.ga K "drawing")) := let ⟨h, X, N⟩ := T.hp; He.glo_ok X N (T.says.fact 17 (f := .glo "drawing") rfl)
theorem Tx.g_first (T : Tx K mg) : mg "first" = some (.ref (He.ga K "first")) := let ⟨h, X, N⟩ := T.hp; He.glo_ok X N (T.says.fact 18 (f := .glo "first") rfl)
theorem Tx.g_table (T : Tx K mg) : mg "table" = some (.ref (He.ga K "table")) := let ⟨h, X, N⟩ := T.hp; He.glo_ok X N (T.says.fact 19 (f := .glo "table") rfl)
theorem Tx.g__law_cell (T : Tx K mg) : mg "_law_cell" = some (.ref (He.ga K "_law_cell")) := let ⟨h, X, N⟩ := T.hp; He.glo_ok X N (T.says.fact 20 (f := .glo "_law_cell") rfl)
theorem Tx.g__law_draws (T : Tx K mg) : mg "_law_draws" = some (.ref (He.ga K "_law_draws")) := let ⟨h, X, N⟩ := T.hp; He.glo_ok X N (T.says.fact 21 (f := .glo "_law_draws") rfl)
theorem Tx.g__law_people (T : Tx K mg) : mg "_law_people" = some (.ref (He.ga K "_law_people")) := let ⟨h, X, N⟩ := T.hp; He.glo_ok X N (T.says.fact 22 (f := .glo "_law_people") rfl)
theorem Tx.g__law_barred (T : Tx K mg) : mg "_law_barred" = some (.ref (He.ga K "_law_barred")) := let ⟨h, X, N⟩ := T.hp; He.glo_ok X N (T.says.fact 23 (f := .glo "_law_barred") rfl)
theorem Tx.g__law_hidden (T : Tx K mg) : mg "_law_hidden" = some (.ref (He.ga K "_law_hidden")) := let ⟨h, X, N⟩ := T.hp; He.glo_ok X N (T.says.fact 24 (f := .glo "_law_hidden") rfl)
theorem Tx.g__law_lot (T : Tx K mg) : mg "_law_lot" = some (.ref (He.ga K "_law_lot")) := let ⟨h, X, N⟩ := T.hp; He.glo_ok X N (T.says.fact 25 (f := .glo "_law_lot") rfl)
theorem Tx.g__law_leak (T : Tx K mg) : mg "_law_leak" = some (.ref (He.ga K "_law_leak")) := let ⟨h, X, N⟩ := T.hp; He.glo_ok X N (T.says.fact 26 (f := .glo "_law_leak") rfl)
theorem Tx.g__law_lets (T : Tx K mg) : mg "_law_lets" = some (.ref (He.ga K "_law_lets")) := let ⟨h, X, N⟩ := T.hp; He.glo_ok X N (T.says.fact 27 (f := .glo "_law_lets") rfl)
theorem Tx.g__law_kept (T : Tx K mg) : mg "_law_kept" = some (.ref (He.ga K "_law_kept")) := let ⟨h, X, N⟩ := T.hp; He.glo_ok X N (T.says.fact 28 (f := .glo "_law_kept") rfl)
theorem Tx.g__law_mended (T : Tx K mg) : mg "_law_mended" = some (.ref (He.ga K "_law_mended")) := let ⟨h, X, N⟩ := T.hp; He.glo_ok X N (T.says.fact 29 (f := .glo "_law_mended") rfl)
theorem Tx.g__law_world (T : Tx K mg) : mg "_law_world" = some (.ref (He.ga K "_law_world")) := let ⟨h, X, N⟩ := T.hp; He.glo_ok X N (T.says.fact 30 (f := .glo "_law_world") rfl)
theorem Tx.g__law_equal (T : Tx K mg) : mg "_law_equal" = some (.ref (He.ga K "_law_equal")) := let ⟨h, X, N⟩ := T.hp; He.glo_ok X N (T.says.fact 31 (f := .glo "_law_equal") rfl)
theorem Tx.g__law_ordered (T : Tx K mg) : mg "_law_ordered" = some (.ref (He.ga K "_law_ordered")) := let ⟨h, X, N⟩ := T.hp; He.glo_ok X N (T.says.fact 32 (f := .glo "_law_ordered") rfl)
theorem Tx.g_law (T : Tx K mg) : mg "law" = some (.ref (He.ga K "law")) := let ⟨h, X, N⟩ := T.hp; He.glo_ok X N (T.says.fact 33 (f := .glo "law") rfl)
theorem Tx.g_Party (T : Tx K mg) : mg "Party" = some (.ref (He.ga K "Party")) := let ⟨h, X, N⟩ := T.hp; He.glo_ok X N (T.says.fact 34 (f := .glo "Party") rfl)
theorem Tx.c_Party (T : Tx K mg) : Cls K (He.ga K "Party") := He.cls_ok (T.says.fact 35 (f := .cls "Party") rfl)
theorem Tx.k_Party (T : Tx K mg) : Mk K (He.ga K "Party") (He.ma K (He.ga K "Party") "__init__") := He.mkr_ok (T.says.fact 36 (f := .mkr "Party") rfl)
theorem Tx.m_Party_people (T : Tx K mg) : Meth K (He.ga K "Party") "people" (He.ma K (He.ga K "Party") "people") := He.meth_ok (T.says.fact 37 (f := .meth "Party" "people") rfl)
theorem Tx.m_Party_may (T : Tx K mg) : Meth K (He.ga K "Party") "may" (He.ma K (He.ga K "Party") "may") := He.meth_ok (T.says.fact 38 (f := .meth "Party" "may") rfl)
theorem Tx.m_Party_In (T : Tx K mg) : Meth K (He.ga K "Party") "__contains__" (He.ma K (He.ga K "Party") "__contains__") := He.meth_ok (T.says.fact 39 (f := .meth "Party" "__contains__") rfl)
theorem Tx.g_Evening (T : Tx K mg) : mg "Evening" = some (.ref (He.ga K "Evening")) := let ⟨h, X, N⟩ := T.hp; He.glo_ok X N (T.says.fact 40 (f := .glo "Evening") rfl)
theorem Tx.c_Evening (T : Tx K mg) : Cls K (He.ga K "Evening") := He.cls_ok (T.says.fact 41 (f := .cls "Evening") rfl)
theorem Tx.k_Evening (T : Tx K mg) : Mk K (He.ga K "Evening") (He.ma K (He.ga K "Evening") "__init__") := He.mkr_ok (T.says.fact 42 (f := .mkr "Evening") rfl)
theorem Tx.m_Evening_offers (T : Tx K mg) : Meth K (He.ga K "Evening") "_offers" (He.ma K (He.ga K "Evening") "_offers") := He.meth_ok (T.says.fact 43 (f := .meth "Evening" "_offers") rfl)
theorem Tx.m_Evening_may_take (T : Tx K mg) : Meth K (He.ga K "Evening") "may_take" (He.ma K (He.ga K "Evening") "may_take") := He.meth_ok (T.says.fact 44 (f := .meth "Evening" "may_take") rfl)
theorem Tx.m_Evening_undo (T : Tx K mg) : Meth K (He.ga K "Evening") "undo" (He.ma K (He.ga K "Evening") "undo") := He.meth_ok (T.says.fact 45 (f := .meth "Evening" "undo") rfl)
theorem Tx.m_Evening_Call (T : Tx K mg) : Meth K (He.ga K "Evening") "__call__" (He.ma K (He.ga K "Evening") "__call__") := He.meth_ok (T.says.fact 46 (f := .meth "Evening" "__call__") rfl)
theorem Tx.m_Evening_Len (T : Tx K mg) : Meth K (He.ga K "Evening") "__len__" (He.ma K (He.ga K "Evening") "__len__") := He.meth_ok (T.says.fact 47 (f := .meth "Evening" "__len__") rfl)
theorem Tx.m_Evening_In (T : Tx K mg) : Meth K (He.ga K "Evening") "__contains__" (He.ma K (He.ga K "Evening") "__contains__") := He.meth_ok (T.says.fact 48 (f := .meth "Evening" "__contains__") rfl)
theorem Tx.g_Book (T : Tx K mg) : mg "Book" = some (.ref (He.ga K "Book")) := let ⟨h, X, N⟩ := T.hp; He.glo_ok X N (T.says.fact 49 (f := .glo "Book") rfl)
theorem Tx.c_Book (T : Tx K mg) : Cls K (He.ga K "Book") := He.cls_ok (T.says.fact 50 (f := .cls "Book") rfl)
theorem Tx.k_Book (T : Tx K mg) : Mk K (He.ga K "Book") (He.ma K (He.ga K "Book") "__init__") := He.mkr_ok (T.says.fact 51 (f := .mkr "Book") rfl)
theorem Tx.m_Book_party (T : Tx K mg) : Meth K (He.ga K "Book") "party" (He.ma K (He.ga K "Book") "party") := He.meth_ok (T.says.fact 52 (f := .meth "Book" "party") rfl)
theorem Tx.m_Book_rows (T : Tx K mg) : Meth K (He.ga K "Book") "rows" (He.ma K (He.ga K "Book") "rows") := He.meth_ok (T.says.fact 53 (f := .meth "Book" "rows") rfl)
theorem Tx.n_Party_people (T : Tx K mg) : NoAttr K (He.ga K "Party") "_people" := He.noat_ok (T.says.fact 54 (f := .noat "Party" "_people") rfl)
theorem Tx.n_Party_closed (T : Tx K mg) : NoAttr K (He.ga K "Party") "_closed" := He.noat_ok (T.says.fact 55 (f := .noat "Party" "_closed") rfl)
theorem Tx.n_Evening_rows (T : Tx K mg) : NoAttr K (He.ga K "Evening") "_rows" := He.noat_ok (T.says.fact 56 (f := .noat "Evening" "_rows") rfl)
theorem Tx.n_Evening_people (T : Tx K mg) : NoAttr K (He.ga K "Evening") "_people" := He.noat_ok (T.says.fact 57 (f := .noat "Evening" "_people") rfl)
theorem Tx.n_Evening_taken (T : Tx K mg) : NoAttr K (He.ga K "Evening") "_taken" := He.noat_ok (T.says.fact 58 (f := .noat "Evening" "_taken") rfl)
theorem Tx.n_Evening_kept (T : Tx K mg) : NoAttr K (He.ga K "Evening") "_kept" := He.noat_ok (T.says.fact 59 (f := .noat "Evening" "_kept") rfl)
theorem Tx.n_Evening_inside (T : Tx K mg) : NoAttr K (He.ga K "Evening") "_inside" := He.noat_ok (T.says.fact 60 (f := .noat "Evening" "_inside") rfl)
theorem Tx.n_Book_party (T : Tx K mg) : NoAttr K (He.ga K "Book") "_party" := He.noat_ok (T.says.fact 61 (f := .noat "Book" "_party") rfl)
theorem Tx.n_Book_leaks (T : Tx K mg) : NoAttr K (He.ga K "Book") "_leaks" := He.noat_ok (T.says.fact 62 (f := .noat "Book" "_leaks") rfl)
theorem Tx.n_Book_rows (T : Tx K mg) : NoAttr K (He.ga K "Book") "_rows" := He.noat_ok (T.says.fact 63 (f := .noat "Book" "_rows") rfl)
theorem Tx.i_MOST_PEOPLE (T : Tx K mg) : ∃ t, mg "MOST_PEOPLE" = some (.int 24 t) := let ⟨h, X, N⟩ := T.hp; He.int_ok X N (T.says.fact 64 (f := .int "MOST_PEOPLE" 24) rfl)
theorem Tx.i_MOST_BARRED (T : Tx K mg) : ∃ t, mg "MOST_BARRED" = some (.int 600 t) := let ⟨h, X, N⟩ := T.hp; He.int_ok X N (T.says.fact 65 (f := .int "MOST_BARRED" 600) rfl)
theorem Tx.i_MOST_LEAKS (T : Tx K mg) : ∃ t, mg "MOST_LEAKS" = some (.int 40 t) := let ⟨h, X, N⟩ := T.hp; He.int_ok X N (T.says.fact 66 (f := .int "MOST_LEAKS" 40) rfl)
theorem Tx.t_LETTERS (T : Tx K mg) : ∃ t, mg "LETTERS" = some (.str "abcdefghijklmnopqrstuvwxyz" t) := let ⟨h, X, N⟩ := T.hp; He.str_ok X N (T.says.fact 67 (f := .str "LETTERS" "abcdefghijklmnopqrstuvwxyz") rfl)
theorem Tx.b_isinstance (T : Tx K mg) : mg "isinstance" = none := let ⟨h, X, N⟩ := T.hp; He.free_ok X N (T.says.fact 68 (f := .free "isinstance") rfl)
theorem Tx.b_len (T : Tx K mg) : mg "len" = none := let ⟨h, X, N⟩ := T.hp; He.free_ok X N (T.says.fact 69 (f := .free "len") rfl)
theorem Tx.b_tuple (T : Tx K mg) : mg "tuple" = none := let ⟨h, X, N⟩ := T.hp; He.free_ok X N (T.says.fact 70 (f := .free "tuple") rfl)
theorem Tx.b_str (T : Tx K mg) : mg "str" = none := let ⟨h, X, N⟩ := T.hp; He.free_ok X N (T.says.fact 71 (f := .free "str") rfl)
theorem Tx.b_list (T : Tx K mg) : mg "list" = none := let ⟨h, X, N⟩ := T.hp; He.free_ok X N (T.says.fact 72 (f := .free "list") rfl)
theorem Tx.b_int (T : Tx K mg) : mg "int" = none := let ⟨h, X, N⟩ := T.hp; He.free_ok X N (T.says.fact 73 (f := .free "int") rfl)
theorem Tx.b_dict (T : Tx K mg) : mg "dict" = none := let ⟨h, X, N⟩ := T.hp; He.free_ok X N (T.says.fact 74 (f := .free "dict") rfl)
theorem Tx.b_bool (T : Tx K mg) : mg "bool" = none := let ⟨h, X, N⟩ := T.hp; He.free_ok X N (T.says.fact 75 (f := .free "bool") rfl)
theorem Tx.b_range (T : Tx K mg) : mg "range" = none := let ⟨h, X, N⟩ := T.hp; He.free_ok X N (T.says.fact 76 (f := .free "range") rfl)
theorem Tx.b_enumerate (T : Tx K mg) : mg "enumerate" = none := let ⟨h, X, N⟩ := T.hp; He.free_ok X N (T.says.fact 77 (f := .free "enumerate") rfl)
theorem Tx.b_sorted (T : Tx K mg) : mg "sorted" = none := let ⟨h, X, N⟩ := T.hp; He.free_ok X N (T.says.fact 78 (f := .free "sorted") rfl)
theorem Tx.b_all (T : Tx K mg) : mg "all" = none := let ⟨h, X, N⟩ := T.hp; He.free_ok X N (T.says.fact 79 (f := .free "all") rfl)
abbrev N_seek : List Str := ["rows", "giver", "held", "seen", "taker"]
theorem sc_seek : FnScope N_seek ["rows", "giver", "held", "seen"] (defScope s_seek) := ⟨rfl, rfl, rfl, by decide +kernel, rfl, by decide +kernel, by decide +kernel⟩
theorem Tx.f_seek (T : Tx K mg) : ∃ fd, L2.Fun K "seek" "seek" s_seek (He.ga K "seek") fd ∧ Binds K fd ["rows", "giver", "held", "seen"] [] := by
  obtain ⟨fd, F⟩ := T.says.def_ 0 (d := d_seek) rfl
  have F2 : L2.Fun K "seek" "seek" s_seek (He.ga K "seek") fd := fun_of F
  exact ⟨fd, F2, F2.binds (ps := ["rows", "giver", "held", "seen"]) fun _ _ _ _ _ _ us hl => match us, hl with | [_, _, _, _], _ => rfl⟩
abbrev N_paired : List Str := ["rows", "held", "giver", "takers", "taker"]
theorem sc_paired : FnScope N_paired ["rows"] (defScope s_paired) := ⟨rfl, rfl, rfl, by decide +kernel, rfl, by decide +kernel, by decide +kernel⟩
theorem Tx.f_paired (T : Tx K mg) : ∃ fd, L2.Fun K "paired" "paired" s_paired (He.ga K "paired") fd ∧ Binds K fd ["rows"] [] := by
  obtain ⟨fd, F⟩ := T.says.def_ 1 (d := d_paired) rfl
  have F2 : L2.Fun K "paired" "paired" s_paired (He.ga K "paired") fd := fun_of F
  exact ⟨fd, F2, F2.binds (ps := ["rows"]) fun _ _ _ _ _ _ us hl => match us, hl with | [_], _ => rfl⟩
abbrev N_owners_of : List Str := ["pairing", "giver"]
theorem sc_owners_of : FnScope N_owners_of ["pairing"] (defScope s_owners_of) := ⟨rfl, rfl, rfl, by decide +kernel, rfl, by decide +kernel, by decide +kernel⟩
theorem Tx.f_owners_of (T : Tx K mg) : ∃ fd, L2.Fun K "owners_of" "owners_of" s_owners_of (He.ga K "owners_of") fd ∧ Binds K fd ["pairing"] [] := by
  obtain ⟨fd, F⟩ := T.says.def_ 2 (d := d_owners_of) rfl
  have F2 : L2.Fun K "owners_of" "owners_of" s_owners_of (He.ga K "owners_of") fd := fun_of F
  exact ⟨fd, F2, F2.binds (ps := ["pairing"]) fun _ _ _ _ _ _ us hl => match us, hl with | [_], _ => rfl⟩
abbrev N_reached : List Str := ["rows", "owners", "start", "found", "waiting", "giver", "taker", "owner"]
theorem sc_reached : FnScope N_reached ["rows", "owners", "start"] (defScope s_reached) := ⟨rfl, rfl, rfl, by decide +kernel, rfl, by decide +kernel, by decide +kernel⟩
theorem Tx.f_reached (T : Tx K mg) : ∃ fd, L2.Fun K "reached" "reached" s_reached (He.ga K "reached") fd ∧ Binds K fd ["rows", "owners", "start"] [] := by
  obtain ⟨fd, F⟩ := T.says.def_ 3 (d := d_reached) rfl
  have F2 : L2.Fun K "reached" "reached" s_reached (He.ga K "reached") fd := fun_of F
  exact ⟨fd, F2, F2.binds (ps := ["rows", "owners", "start"]) fun _ _ _ _ _ _ us hl => match us, hl with | [_, _, _], _ => rfl⟩
abbrev N_table_rows : List Str := ["rows", "pairing", "giver", "owners", "reach", "result", "taker"]
theorem sc_table_rows : FnScope N_table_rows ["rows"] (defScope s_table_rows) := ⟨rfl, rfl, rfl, by decide +kernel, rfl, by decide +kernel, by decide +kernel⟩
theorem Tx.f_table_rows (T : Tx K mg) : ∃ fd, L2.Fun K "table_rows" "table_rows" s_table_rows (He.ga K "table_rows") fd ∧ Binds K fd ["rows"] [] := by
  obtain ⟨fd, F⟩ := T.says.def_ 4 (d := d_table_rows) rfl
  have F2 : L2.Fun K "table_rows" "table_rows" s_table_rows (He.ga K "table_rows") fd := fun_of F
  exact ⟨fd, F2, F2.binds (ps := ["rows"]) fun _ _ _ _ _ _ us hl => match us, hl with | [_], _ => rfl⟩
abbrev N_fixed : List Str := ["rows", "giver", "taker", "result", "other", "name"]
theorem sc_fixed : FnScope N_fixed ["rows", "giver", "taker"] (defScope s_fixed) := ⟨rfl, rfl, rfl, by decide +kernel, rfl, by decide +kernel, by decide +kernel⟩
theorem Tx.f_fixed (T : Tx K mg) : ∃ fd, L2.Fun K "fixed" "fixed" s_fixed (He.ga K "fixed") fd ∧ Binds K fd ["rows", "giver", "taker"] [] := by
  obtain ⟨fd, F⟩ := T.says.def_ 5 (d := d_fixed) rfl
  have F2 : L2.Fun K "fixed" "fixed" s_fixed (He.ga K "fixed") fd := fun_of F
  exact ⟨fd, F2, F2.binds (ps := ["rows", "giver", "taker"]) fun _ _ _ _ _ _ us hl => match us, hl with | [_, _, _], _ => rfl⟩
abbrev N_is_name : List Str := ["value", "sign"]
theorem sc_is_name : FnScope N_is_name ["value"] (defScope s_is_name) := ⟨rfl, rfl, rfl, by decide +kernel, rfl, by decide +kernel, by decide +kernel⟩
theorem Tx.f_is_name (T : Tx K mg) : ∃ fd, L2.Fun K "is_name" "is_name" s_is_name (He.ga K "is_name") fd ∧ Binds K fd ["value"] [] := by
  obtain ⟨fd, F⟩ := T.says.def_ 6 (d := d_is_name) rfl
  have F2 : L2.Fun K "is_name" "is_name" s_is_name (He.ga K "is_name") fd := fun_of F
  exact ⟨fd, F2, F2.binds (ps := ["value"]) fun _ _ _ _ _ _ us hl => match us, hl with | [_], _ => rfl⟩
abbrev N_is_person : List Str := ["people", "value"]
theorem sc_is_person : FnScope N_is_person ["people", "value"] (defScope s_is_person) := ⟨rfl, rfl, rfl, by decide +kernel, rfl, by decide +kernel, by decide +kernel⟩
theorem Tx.f_is_person (T : Tx K mg) : ∃ fd, L2.Fun K "is_person" "is_person" s_is_person (He.ga K "is_person") fd ∧ Binds K fd ["people", "value"] [] := by
  obtain ⟨fd, F⟩ := T.says.def_ 7 (d := d_is_person) rfl
  have F2 : L2.Fun K "is_person" "is_person" s_is_person (He.ga K "is_person") fd := fun_of F
  exact ⟨fd, F2, F2.binds (ps := ["people", "value"]) fun _ _ _ _ _ _ us hl => match us, hl with | [_, _], _ => rfl⟩
abbrev N_are_different : List Str := ["people", "values", "index", "value"]
theorem sc_are_different : FnScope N_are_different ["people", "values"] (defScope s_are_different) := ⟨rfl, rfl, rfl, by decide +kernel, rfl, by decide +kernel, by decide +kernel⟩
theorem Tx.f_are_different (T : Tx K mg) : ∃ fd, L2.Fun K "are_different" "are_different" s_are_different (He.ga K "are_different") fd ∧ Binds K fd ["people", "values"] [] := by
  obtain ⟨fd, F⟩ := T.says.def_ 8 (d := d_are_different) rfl
  have F2 : L2.Fun K "are_different" "are_different" s_are_different (He.ga K "are_different") fd := fun_of F
  exact ⟨fd, F2, F2.binds (ps := ["people", "values"]) fun _ _ _ _ _ _ us hl => match us, hl with | [_, _], _ => rfl⟩
abbrev N_is_pair : List Str := ["people", "value"]
theorem sc_is_pair : FnScope N_is_pair ["people", "value"] (defScope s_is_pair) := ⟨rfl, rfl, rfl, by decide +kernel, rfl, by decide +kernel, by decide +kernel⟩
theorem Tx.f_is_pair (T : Tx K mg) : ∃ fd, L2.Fun K "is_pair" "is_pair" s_is_pair (He.ga K "is_pair") fd ∧ Binds K fd ["people", "value"] [] := by
  obtain ⟨fd, F⟩ := T.says.def_ 9 (d := d_is_pair) rfl
  have F2 : L2.Fun K "is_pair" "is_pair" s_is_pair (He.ga K "is_pair") fd := fun_of F
  exact ⟨fd, F2, F2.binds (ps := ["people", "value"]) fun _ _ _ _ _ _ us hl => match us, hl with | [_, _], _ => rfl⟩
abbrev N_check_people : List Str := ["people", "index", "person"]
theorem sc_check_people : FnScope N_check_people ["people"] (defScope s_check_people) := ⟨rfl, rfl, rfl, by decide +kernel, rfl, by decide +kernel, by decide +kernel⟩
theorem Tx.f_check_people (T : Tx K mg) : ∃ fd, L2.Fun K "check_people" "check_people" s_check_people (He.ga K "check_people") fd ∧ Binds K fd ["people"] [] := by
  obtain ⟨fd, F⟩ := T.says.def_ 10 (d := d_check_people) rfl
  have F2 : L2.Fun K "check_people" "check_people" s_check_people (He.ga K "check_people") fd := fun_of F
  exact ⟨fd, F2, F2.binds (ps := ["people"]) fun _ _ _ _ _ _ us hl => match us, hl with | [_], _ => rfl⟩
abbrev N_check_pairs : List Str := ["people", "pairs", "index", "pair"]
theorem sc_check_pairs : FnScope N_check_pairs ["people", "pairs"] (defScope s_check_pairs) := ⟨rfl, rfl, rfl, by decide +kernel, rfl, by decide +kernel, by decide +kernel⟩
theorem Tx.f_check_pairs (T : Tx K mg) : ∃ fd, L2.Fun K "check_pairs" "check_pairs" s_check_pairs (He.ga K "check_pairs") fd ∧ Binds K fd ["people", "pairs"] [] := by
  obtain ⟨fd, F⟩ := T.says.def_ 11 (d := d_check_pairs) rfl
  have F2 : L2.Fun K "check_pairs" "check_pairs" s_check_pairs (He.ga K "check_pairs") fd := fun_of F
  exact ⟨fd, F2, F2.binds (ps := ["people", "pairs"]) fun _ _ _ _ _ _ us hl => match us, hl with | [_, _], _ => rfl⟩
abbrev N_check_name : List Str := ["people", "value"]
theorem sc_check_name : FnScope N_check_name ["people", "value"] (defScope s_check_name) := ⟨rfl, rfl, rfl, by decide +kernel, rfl, by decide +kernel, by decide +kernel⟩
theorem Tx.f_check_name (T : Tx K mg) : ∃ fd, L2.Fun K "check_name" "check_name" s_check_name (He.ga K "check_name") fd ∧ Binds K fd ["people", "value"] [] := by
  obtain ⟨fd, F⟩ := T.says.def_ 12 (d := d_check_name) rfl
  have F2 : L2.Fun K "check_name" "check_name" s_check_name (He.ga K "check_name") fd := fun_of F
  exact ⟨fd, F2, F2.binds (ps := ["people", "value"]) fun _ _ _ _ _ _ us hl => match us, hl with | [_, _], _ => rfl⟩
abbrev N_is_lot : List Str := ["people", "value"]
theorem sc_is_lot : FnScope N_is_lot ["people", "value"] (defScope s_is_lot) := ⟨rfl, rfl, rfl, by decide +kernel, rfl, by decide +kernel, by decide +kernel⟩
theorem Tx.f_is_lot (T : Tx K mg) : ∃ fd, L2.Fun K "is_lot" "is_lot" s_is_lot (He.ga K "is_lot") fd ∧ Binds K fd ["people", "value"] [] := by
  obtain ⟨fd, F⟩ := T.says.def_ 13 (d := d_is_lot) rfl
  have F2 : L2.Fun K "is_lot" "is_lot" s_is_lot (He.ga K "is_lot") fd := fun_of F
  exact ⟨fd, F2, F2.binds (ps := ["people", "value"]) fun _ _ _ _ _ _ us hl => match us, hl with | [_, _], _ => rfl⟩
abbrev N_is_leak : List Str := ["people", "leak"]
theorem sc_is_leak : FnScope N_is_leak ["people", "leak"] (defScope s_is_leak) := ⟨rfl, rfl, rfl, by decide +kernel, rfl, by decide +kernel, by decide +kernel⟩
theorem Tx.f_is_leak (T : Tx K mg) : ∃ fd, L2.Fun K "is_leak" "is_leak" s_is_leak (He.ga K "is_leak") fd ∧ Binds K fd ["people", "leak"] [] := by
  obtain ⟨fd, F⟩ := T.says.def_ 14 (d := d_is_leak) rfl
  have F2 : L2.Fun K "is_leak" "is_leak" s_is_leak (He.ga K "is_leak") fd := fun_of F
  exact ⟨fd, F2, F2.binds (ps := ["people", "leak"]) fun _ _ _ _ _ _ us hl => match us, hl with | [_, _], _ => rfl⟩
abbrev N_lets : List Str := ["leak", "giver", "taker", "word", "left", "right"]
theorem sc_lets : FnScope N_lets ["leak", "giver", "taker"] (defScope s_lets) := ⟨rfl, rfl, rfl, by decide +kernel, rfl, by decide +kernel, by decide +kernel⟩
theorem Tx.f_lets (T : Tx K mg) : ∃ fd, L2.Fun K "lets" "lets" s_lets (He.ga K "lets") fd ∧ Binds K fd ["leak", "giver", "taker"] [] := by
  obtain ⟨fd, F⟩ := T.says.def_ 15 (d := d_lets) rfl
  have F2 : L2.Fun K "lets" "lets" s_lets (He.ga K "lets") fd := fun_of F
  exact ⟨fd, F2, F2.binds (ps := ["leak", "giver", "taker"]) fun _ _ _ _ _ _ us hl => match us, hl with | [_, _, _], _ => rfl⟩
abbrev N_all_let : List Str := ["leaks", "giver", "taker", "leak"]
theorem sc_all_let : FnScope N_all_let ["leaks", "giver", "taker"] (defScope s_all_let) := ⟨rfl, rfl, rfl, by decide +kernel, rfl, by decide +kernel, by decide +kernel⟩
theorem Tx.f_all_let (T : Tx K mg) : ∃ fd, L2.Fun K "all_let" "all_let" s_all_let (He.ga K "all_let") fd ∧ Binds K fd ["leaks", "giver", "taker"] [] := by
  obtain ⟨fd, F⟩ := T.says.def_ 16 (d := d_all_let) rfl
  have F2 : L2.Fun K "all_let" "all_let" s_all_let (He.ga K "all_let") fd := fun_of F
  exact ⟨fd, F2, F2.binds (ps := ["leaks", "giver", "taker"]) fun _ _ _ _ _ _ us hl => match us, hl with | [_, _, _], _ => rfl⟩
abbrev N_drawing : List Str := ["book"]
theorem sc_drawing : FnScope N_drawing ["book"] (defScope s_drawing) := ⟨rfl, rfl, rfl, by decide +kernel, rfl, by decide +kernel, by decide +kernel⟩
theorem Tx.f_drawing (T : Tx K mg) : ∃ fd, L2.Fun K "drawing" "drawing" s_drawing (He.ga K "drawing") fd ∧ Binds K fd ["book"] [] := by
  obtain ⟨fd, F⟩ := T.says.def_ 17 (d := d_drawing) rfl
  have F2 : L2.Fun K "drawing" "drawing" s_drawing (He.ga K "drawing") fd := fun_of F
  exact ⟨fd, F2, F2.binds (ps := ["book"]) fun _ _ _ _ _ _ us hl => match us, hl with | [_], _ => rfl⟩
abbrev N_first : List Str := ["book", "rows", "giver"]
theorem sc_first : FnScope N_first ["book"] (defScope s_first) := ⟨rfl, rfl, rfl, by decide +kernel, rfl, by decide +kernel, by decide +kernel⟩
theorem Tx.f_first (T : Tx K mg) : ∃ fd, L2.Fun K "first" "first" s_first (He.ga K "first") fd ∧ Binds K fd ["book"] [] := by
  obtain ⟨fd, F⟩ := T.says.def_ 18 (d := d_first) rfl
  have F2 : L2.Fun K "first" "first" s_first (He.ga K "first") fd := fun_of F
  exact ⟨fd, F2, F2.binds (ps := ["book"]) fun _ _ _ _ _ _ us hl => match us, hl with | [_], _ => rfl⟩
abbrev N_table : List Str := ["book"]
theorem sc_table : FnScope N_table ["book"] (defScope s_table) := ⟨rfl, rfl, rfl, by decide +kernel, rfl, by decide +kernel, by decide +kernel⟩
theorem Tx.f_table (T : Tx K mg) : ∃ fd, L2.Fun K "table" "table" s_table (He.ga K "table") fd ∧ Binds K fd ["book"] [] := by
  obtain ⟨fd, F⟩ := T.says.def_ 19 (d := d_table) rfl
  have F2 : L2.Fun K "table" "table" s_table (He.ga K "table") fd := fun_of F
  exact ⟨fd, F2, F2.binds (ps := ["book"]) fun _ _ _ _ _ _ us hl => match us, hl with | [_], _ => rfl⟩
abbrev N_l_cell : List Str := ["_law_script", "_law_k"]
theorem sc_l_cell : FnScope N_l_cell ["_law_script", "_law_k"] (defScope sl_cell) := ⟨rfl, rfl, rfl, by decide +kernel, rfl, by decide +kernel, by decide +kernel⟩
theorem Tx.f_l_cell (T : Tx K mg) : ∃ fd, L2.Fun K "_law_cell" "_law_cell" sl_cell (He.ga K "_law_cell") fd ∧ Binds K fd ["_law_script", "_law_k"] [] := by
  obtain ⟨fd, F⟩ := T.says.def_ 20 (d := dl_cell) rfl
  have F2 : L2.Fun K "_law_cell" "_law_cell" sl_cell (He.ga K "_law_cell") fd := fun_of F
  exact ⟨fd, F2, F2.binds (ps := ["_law_script", "_law_k"]) fun _ _ _ _ _ _ us hl => match us, hl with | [_, _], _ => rfl⟩
abbrev N_l_draws : List Str := ["_law_cell_here", "_law_amount", "_law_great", "_law_draws_here", "_law_k", "_law_number"]
theorem sc_l_draws : FnScope N_l_draws ["_law_cell_here", "_law_amount"] (defScope sl_draws) := ⟨rfl, rfl, rfl, by decide +kernel, rfl, by decide +kernel, by decide +kernel⟩
theorem Tx.f_l_draws (T : Tx K mg) : ∃ fd, L2.Fun K "_law_draws" "_law_draws" sl_draws (He.ga K "_law_draws") fd ∧ Binds K fd ["_law_cell_here", "_law_amount"] [] := by
  obtain ⟨fd, F⟩ := T.says.def_ 21 (d := dl_draws) rfl
  have F2 : L2.Fun K "_law_draws" "_law_draws" sl_draws (He.ga K "_law_draws") fd := fun_of F
  exact ⟨fd, F2, F2.binds (ps := ["_law_cell_here", "_law_amount"]) fun _ _ _ _ _ _ us hl => match us, hl with | [_, _], _ => rfl⟩
abbrev N_l_people : List Str := ["_law_cell_here", "_law_amount", "_law_letters", "_law_draws_here", "_law_people_here", "_law_k", "_law_number", "_law_size", "_law_name", "_law_j"]
theorem sc_l_people : FnScope N_l_people ["_law_cell_here", "_law_amount"] (defScope sl_people) := ⟨rfl, rfl, rfl, by decide +kernel, rfl, by decide +kernel, by decide +kernel⟩
theorem Tx.f_l_people (T : Tx K mg) : ∃ fd, L2.Fun K "_law_people" "_law_people" sl_people (He.ga K "_law_people") fd ∧ Binds K fd ["_law_cell_here", "_law_amount"] [] := by
  obtain ⟨fd, F⟩ := T.says.def_ 22 (d := dl_people) rfl
  have F2 : L2.Fun K "_law_people" "_law_people" sl_people (He.ga K "_law_people") fd := fun_of F
  exact ⟨fd, F2, F2.binds (ps := ["_law_cell_here", "_law_amount"]) fun _ _ _ _ _ _ us hl => match us, hl with | [_, _], _ => rfl⟩
abbrev N_l_barred : List Str := ["_law_cell_here", "_law_people_here", "_law_many", "_law_draws_here", "_law_weight", "_law_pairs", "_law_k", "_law_a", "_law_b"]
theorem sc_l_barred : FnScope N_l_barred ["_law_cell_here", "_law_people_here"] (defScope sl_barred) := ⟨rfl, rfl, rfl, by decide +kernel, rfl, by decide +kernel, by decide +kernel⟩
theorem Tx.f_l_barred (T : Tx K mg) : ∃ fd, L2.Fun K "_law_barred" "_law_barred" sl_barred (He.ga K "_law_barred") fd ∧ Binds K fd ["_law_cell_here", "_law_people_here"] [] := by
  obtain ⟨fd, F⟩ := T.says.def_ 23 (d := dl_barred) rfl
  have F2 : L2.Fun K "_law_barred" "_law_barred" sl_barred (He.ga K "_law_barred") fd := fun_of F
  exact ⟨fd, F2, F2.binds (ps := ["_law_cell_here", "_law_people_here"]) fun _ _ _ _ _ _ us hl => match us, hl with | [_, _], _ => rfl⟩
abbrev N_l_hidden : List Str := ["_law_cell_here", "_law_people_here", "_law_draws_here", "_law_order", "_law_k", "_law_at", "_law_shift", "_law_takers"]
theorem sc_l_hidden : FnScope N_l_hidden ["_law_cell_here", "_law_people_here"] (defScope sl_hidden) := ⟨rfl, rfl, rfl, by decide +kernel, rfl, by decide +kernel, by decide +kernel⟩
theorem Tx.f_l_hidden (T : Tx K mg) : ∃ fd, L2.Fun K "_law_hidden" "_law_hidden" sl_hidden (He.ga K "_law_hidden") fd ∧ Binds K fd ["_law_cell_here", "_law_people_here"] [] := by
  obtain ⟨fd, F⟩ := T.says.def_ 24 (d := dl_hidden) rfl
  have F2 : L2.Fun K "_law_hidden" "_law_hidden" sl_hidden (He.ga K "_law_hidden") fd := fun_of F
  exact ⟨fd, F2, F2.binds (ps := ["_law_cell_here", "_law_people_here"]) fun _ _ _ _ _ _ us hl => match us, hl with | [_, _], _ => rfl⟩
abbrev N_l_lot : List Str := ["_law_draws_here", "_law_people_here", "_law_weight", "_law_chosen", "_law_k", "_law_shift"]
theorem sc_l_lot : FnScope N_l_lot ["_law_draws_here", "_law_people_here", "_law_weight"] (defScope sl_lot) := ⟨rfl, rfl, rfl, by decide +kernel, rfl, by decide +kernel, by decide +kernel⟩
theorem Tx.f_l_lot (T : Tx K mg) : ∃ fd, L2.Fun K "_law_lot" "_law_lot" sl_lot (He.ga K "_law_lot") fd ∧ Binds K fd ["_law_draws_here", "_law_people_here", "_law_weight"] [] := by
  obtain ⟨fd, F⟩ := T.says.def_ 25 (d := dl_lot) rfl
  have F2 : L2.Fun K "_law_lot" "_law_lot" sl_lot (He.ga K "_law_lot") fd := fun_of F
  exact ⟨fd, F2, F2.binds (ps := ["_law_draws_here", "_law_people_here", "_law_weight"]) fun _ _ _ _ _ _ us hl => match us, hl with | [_, _, _], _ => rfl⟩
abbrev N_l_leak : List Str := ["_law_cell_here", "_law_people_here", "_law_many", "_law_draws_here", "_law_word", "_law_a", "_law_b", "_law_givers", "_law_takers"]
theorem sc_l_leak : FnScope N_l_leak ["_law_cell_here", "_law_people_here"] (defScope sl_leak) := ⟨rfl, rfl, rfl, by decide +kernel, rfl, by decide +kernel, by decide +kernel⟩
theorem Tx.f_l_leak (T : Tx K mg) : ∃ fd, L2.Fun K "_law_leak" "_law_leak" sl_leak (He.ga K "_law_leak") fd ∧ Binds K fd ["_law_cell_here", "_law_people_here"] [] := by
  obtain ⟨fd, F⟩ := T.says.def_ 26 (d := dl_leak) rfl
  have F2 : L2.Fun K "_law_leak" "_law_leak" sl_leak (He.ga K "_law_leak") fd := fun_of F
  exact ⟨fd, F2, F2.binds (ps := ["_law_cell_here", "_law_people_here"]) fun _ _ _ _ _ _ us hl => match us, hl with | [_, _], _ => rfl⟩
abbrev N_l_lets : List Str := ["_law_leak_here", "_law_a", "_law_b"]
theorem sc_l_lets : FnScope N_l_lets ["_law_leak_here", "_law_a", "_law_b"] (defScope sl_lets) := ⟨rfl, rfl, rfl, by decide +kernel, rfl, by decide +kernel, by decide +kernel⟩
theorem Tx.f_l_lets (T : Tx K mg) : ∃ fd, L2.Fun K "_law_lets" "_law_lets" sl_lets (He.ga K "_law_lets") fd ∧ Binds K fd ["_law_leak_here", "_law_a", "_law_b"] [] := by
  obtain ⟨fd, F⟩ := T.says.def_ 27 (d := dl_lets) rfl
  have F2 : L2.Fun K "_law_lets" "_law_lets" sl_lets (He.ga K "_law_lets") fd := fun_of F
  exact ⟨fd, F2, F2.binds (ps := ["_law_leak_here", "_law_a", "_law_b"]) fun _ _ _ _ _ _ us hl => match us, hl with | [_, _, _], _ => rfl⟩
abbrev N_l_kept : List Str := ["_law_leak_here", "_law_takers", "_law_a"]
theorem sc_l_kept : FnScope N_l_kept ["_law_leak_here", "_law_takers"] (defScope sl_kept) := ⟨rfl, rfl, rfl, by decide +kernel, rfl, by decide +kernel, by decide +kernel⟩
theorem Tx.f_l_kept (T : Tx K mg) : ∃ fd, L2.Fun K "_law_kept" "_law_kept" sl_kept (He.ga K "_law_kept") fd ∧ Binds K fd ["_law_leak_here", "_law_takers"] [] := by
  obtain ⟨fd, F⟩ := T.says.def_ 28 (d := dl_kept) rfl
  have F2 : L2.Fun K "_law_kept" "_law_kept" sl_kept (He.ga K "_law_kept") fd := fun_of F
  exact ⟨fd, F2, F2.binds (ps := ["_law_leak_here", "_law_takers"]) fun _ _ _ _ _ _ us hl => match us, hl with | [_, _], _ => rfl⟩
abbrev N_l_mended : List Str := ["_law_leak_here", "_law_hidden_here", "_law_more", "_law_b", "_law_a", "_law_held", "_law_takers"]
theorem sc_l_mended : FnScope N_l_mended ["_law_leak_here", "_law_hidden_here"] (defScope sl_mended) := ⟨rfl, rfl, rfl, by decide +kernel, rfl, by decide +kernel, by decide +kernel⟩
theorem Tx.f_l_mended (T : Tx K mg) : ∃ fd, L2.Fun K "_law_mended" "_law_mended" sl_mended (He.ga K "_law_mended") fd ∧ Binds K fd ["_law_leak_here", "_law_hidden_here"] [] := by
  obtain ⟨fd, F⟩ := T.says.def_ 29 (d := dl_mended) rfl
  have F2 : L2.Fun K "_law_mended" "_law_mended" sl_mended (He.ga K "_law_mended") fd := fun_of F
  exact ⟨fd, F2, F2.binds (ps := ["_law_leak_here", "_law_hidden_here"]) fun _ _ _ _ _ _ us hl => match us, hl with | [_, _], _ => rfl⟩
abbrev N_l_world : List Str := ["_law_script", "_law_most", "_law_leaks", "_law_head", "_law_people_here", "_law_barred_here", "_law_told", "_law_k", "_law_hidden_here", "_law_pair", "_law_leak_here"]
theorem sc_l_world : FnScope N_l_world ["_law_script", "_law_most", "_law_leaks"] (defScope sl_world) := ⟨rfl, rfl, rfl, by decide +kernel, rfl, by decide +kernel, by decide +kernel⟩
theorem Tx.f_l_world (T : Tx K mg) : ∃ fd, L2.Fun K "_law_world" "_law_world" sl_world (He.ga K "_law_world") fd ∧ Binds K fd ["_law_script", "_law_most", "_law_leaks"] [] := by
  obtain ⟨fd, F⟩ := T.says.def_ 30 (d := dl_world) rfl
  have F2 : L2.Fun K "_law_world" "_law_world" sl_world (He.ga K "_law_world") fd := fun_of F
  exact ⟨fd, F2, F2.binds (ps := ["_law_script", "_law_most", "_law_leaks"]) fun _ _ _ _ _ _ us hl => match us, hl with | [_, _, _], _ => rfl⟩
abbrev N_l_equal : List Str := ["_law_actual", "_law_due", "_law_k", "_law_key"]
theorem sc_l_equal : FnScope N_l_equal ["_law_actual", "_law_due"] (defScope sl_equal) := ⟨rfl, rfl, rfl, by decide +kernel, rfl, by decide +kernel, by decide +kernel⟩
theorem Tx.f_l_equal (T : Tx K mg) : ∃ fd, L2.Fun K "_law_equal" "_law_equal" sl_equal (He.ga K "_law_equal") fd ∧ Binds K fd ["_law_actual", "_law_due"] [] := by
  obtain ⟨fd, F⟩ := T.says.def_ 31 (d := dl_equal) rfl
  have F2 : L2.Fun K "_law_equal" "_law_equal" sl_equal (He.ga K "_law_equal") fd := fun_of F
  exact ⟨fd, F2, F2.binds (ps := ["_law_actual", "_law_due"]) fun _ _ _ _ _ _ us hl => match us, hl with | [_, _], _ => rfl⟩
abbrev N_l_ordered : List Str := ["_law_people_here", "_law_barred_here", "_law_leaks", "_law_order", "_law_book", "_law_least", "_law_evening", "_law_before", "_law_half", "_law_k", "_law_told", "_law_a", "_law_b"]
theorem sc_l_ordered : FnScope N_l_ordered ["_law_people_here", "_law_barred_here", "_law_leaks", "_law_order"] (defScope sl_ordered) := ⟨rfl, rfl, rfl, by decide +kernel, rfl, by decide +kernel, by decide +kernel⟩
theorem Tx.f_l_ordered (T : Tx K mg) : ∃ fd, L2.Fun K "_law_ordered" "_law_ordered" sl_ordered (He.ga K "_law_ordered") fd ∧ Binds K fd ["_law_people_here", "_law_barred_here", "_law_leaks", "_law_order"] [] := by
  obtain ⟨fd, F⟩ := T.says.def_ 32 (d := dl_ordered) rfl
  have F2 : L2.Fun K "_law_ordered" "_law_ordered" sl_ordered (He.ga K "_law_ordered") fd := fun_of F
  exact ⟨fd, F2, F2.binds (ps := ["_law_people_here", "_law_barred_here", "_law_leaks", "_law_order"]) fun _ _ _ _ _ _ us hl => match us, hl with | [_, _, _, _], _ => rfl⟩
abbrev N_law : List Str := ["_law_script", "_law_people_here", "_law_barred_here", "_law_leaks", "_law_draws_here", "_law_order", "_law_k", "_law_at"]
theorem sc_law : FnScope N_law ["_law_script"] (defScope s_law) := ⟨rfl, rfl, rfl, by decide +kernel, rfl, by decide +kernel, by decide +kernel⟩
theorem Tx.f_law (T : Tx K mg) : ∃ fd, L2.Fun K "law" "law" s_law (He.ga K "law") fd ∧ Binds K fd ["_law_script"] [] := by
  obtain ⟨fd, F⟩ := T.says.def_ 33 (d := d_law) rfl
  have F2 : L2.Fun K "law" "law" s_law (He.ga K "law") fd := fun_of F
  exact ⟨fd, F2, F2.binds (ps := ["_law_script"]) fun _ _ _ _ _ _ us hl => match us, hl with | [_], _ => rfl⟩
abbrev N_Party_Init : List Str := ["self", "people", "barred", "pair"]
theorem sc_Party_Init : FnScope N_Party_Init ["self", "people", "barred"] (defScope sParty_Init) := ⟨rfl, rfl, rfl, by decide +kernel, rfl, by decide +kernel, by decide +kernel⟩
theorem Tx.f_Party_Init (T : Tx K mg) : ∃ fd, L2.Fun K "__init__" "Party.__init__" sParty_Init (He.ma K (He.ga K "Party") "__init__") fd ∧ Binds K fd ["self", "people", "barred"] [] := by
  obtain ⟨fd, F⟩ := T.says.def_ 34 (d := dParty_Init) rfl
  have F2 : L2.Fun K "__init__" "Party.__init__" sParty_Init (He.ma K (He.ga K "Party") "__init__") fd := fun_of F
  exact ⟨fd, F2, F2.binds (ps := ["self", "people", "barred"]) fun _ _ _ _ _ _ us hl => match us, hl with | [_, _, _], _ => rfl⟩
abbrev N_Party_people : List Str := ["self"]
theorem sc_Party_people : FnScope N_Party_people ["self"] (defScope sParty_people) := ⟨rfl, rfl, rfl, by decide +kernel, rfl, by decide +kernel, by decide +kernel⟩
theorem Tx.f_Party_people (T : Tx K mg) : ∃ fd, L2.Fun K "people" "Party.people" sParty_people (He.ma K (He.ga K "Party") "people") fd ∧ Binds K fd ["self"] [] := by
  obtain ⟨fd, F⟩ := T.says.def_ 35 (d := dParty_people) rfl
  have F2 : L2.Fun K "people" "Party.people" sParty_people (He.ma K (He.ga K "Party") "people") fd := fun_of F
  exact ⟨fd, F2, F2.binds (ps := ["self"]) fun _ _ _ _ _ _ us hl => match us, hl with | [_], _ => rfl⟩
abbrev N_Party_may : List Str := ["self", "giver", "taker"]
theorem sc_Party_may : FnScope N_Party_may ["self", "giver"] (defScope sParty_may) := ⟨rfl, rfl, rfl, by decide +kernel, rfl, by decide +kernel, by decide +kernel⟩
theorem Tx.f_Party_may (T : Tx K mg) : ∃ fd, L2.Fun K "may" "Party.may" sParty_may (He.ma K (He.ga K "Party") "may") fd ∧ Binds K fd ["self", "giver"] [] := by
  obtain ⟨fd, F⟩ := T.says.def_ 36 (d := dParty_may) rfl
  have F2 : L2.Fun K "may" "Party.may" sParty_may (He.ma K (He.ga K "Party") "may") fd := fun_of F
  exact ⟨fd, F2, F2.binds (ps := ["self", "giver"]) fun _ _ _ _ _ _ us hl => match us, hl with | [_, _], _ => rfl⟩
abbrev N_Party_In : List Str := ["self", "pair"]
theorem sc_Party_In : FnScope N_Party_In ["self", "pair"] (defScope sParty_In) := ⟨rfl, rfl, rfl, by decide +kernel, rfl, by decide +kernel, by decide +kernel⟩
theorem Tx.f_Party_In (T : Tx K mg) : ∃ fd, L2.Fun K "__contains__" "Party.__contains__" sParty_In (He.ma K (He.ga K "Party") "__contains__") fd ∧ Binds K fd ["self", "pair"] [] := by
  obtain ⟨fd, F⟩ := T.says.def_ 37 (d := dParty_In) rfl
  have F2 : L2.Fun K "__contains__" "Party.__contains__" sParty_In (He.ma K (He.ga K "Party") "__contains__") fd := fun_of F
  exact ⟨fd, F2, F2.binds (ps := ["self", "pair"]) fun _ _ _ _ _ _ us hl => match us, hl with | [_, _], _ => rfl⟩
abbrev N_Evening_Init : List Str := ["self", "book", "rows"]
theorem sc_Evening_Init : FnScope N_Evening_Init ["self", "book"] (defScope sEvening_Init) := ⟨rfl, rfl, rfl, by decide +kernel, rfl, by decide +kernel, by decide +kernel⟩
theorem Tx.f_Evening_Init (T : Tx K mg) : ∃ fd, L2.Fun K "__init__" "Evening.__init__" sEvening_Init (He.ma K (He.ga K "Evening") "__init__") fd ∧ Binds K fd ["self", "book"] [] := by
  obtain ⟨fd, F⟩ := T.says.def_ 38 (d := dEvening_Init) rfl
  have F2 : L2.Fun K "__init__" "Evening.__init__" sEvening_Init (He.ma K (He.ga K "Evening") "__init__") fd := fun_of F
  exact ⟨fd, F2, F2.binds (ps := ["self", "book"]) fun _ _ _ _ _ _ us hl => match us, hl with | [_, _], _ => rfl⟩
abbrev N_Evening_offers : List Str := ["self", "person", "rows", "giver", "taker"]
theorem sc_Evening_offers : FnScope N_Evening_offers ["self", "person"] (defScope sEvening_offers) := ⟨rfl, rfl, rfl, by decide +kernel, rfl, by decide +kernel, by decide +kernel⟩
theorem Tx.f_Evening_offers (T : Tx K mg) : ∃ fd, L2.Fun K "_offers" "Evening._offers" sEvening_offers (He.ma K (He.ga K "Evening") "_offers") fd ∧ Binds K fd ["self", "person"] [] := by
  obtain ⟨fd, F⟩ := T.says.def_ 39 (d := dEvening_offers) rfl
  have F2 : L2.Fun K "_offers" "Evening._offers" sEvening_offers (He.ma K (He.ga K "Evening") "_offers") fd := fun_of F
  exact ⟨fd, F2, F2.binds (ps := ["self", "person"]) fun _ _ _ _ _ _ us hl => match us, hl with | [_, _], _ => rfl⟩
abbrev N_Evening_may_take : List Str := ["self", "person"]
theorem sc_Evening_may_take : FnScope N_Evening_may_take ["self", "person"] (defScope sEvening_may_take) := ⟨rfl, rfl, rfl, by decide +kernel, rfl, by decide +kernel, by decide +kernel⟩
theorem Tx.f_Evening_may_take (T : Tx K mg) : ∃ fd, L2.Fun K "may_take" "Evening.may_take" sEvening_may_take (He.ma K (He.ga K "Evening") "may_take") fd ∧ Binds K fd ["self", "person"] [] := by
  obtain ⟨fd, F⟩ := T.says.def_ 40 (d := dEvening_may_take) rfl
  have F2 : L2.Fun K "may_take" "Evening.may_take" sEvening_may_take (He.ma K (He.ga K "Evening") "may_take") fd := fun_of F
  exact ⟨fd, F2, F2.binds (ps := ["self", "person"]) fun _ _ _ _ _ _ us hl => match us, hl with | [_, _], _ => rfl⟩
abbrev N_Evening_undo : List Str := ["self", "last"]
theorem sc_Evening_undo : FnScope N_Evening_undo ["self"] (defScope sEvening_undo) := ⟨rfl, rfl, rfl, by decide +kernel, rfl, by decide +kernel, by decide +kernel⟩
theorem Tx.f_Evening_undo (T : Tx K mg) : ∃ fd, L2.Fun K "undo" "Evening.undo" sEvening_undo (He.ma K (He.ga K "Evening") "undo") fd ∧ Binds K fd ["self"] [] := by
  obtain ⟨fd, F⟩ := T.says.def_ 41 (d := dEvening_undo) rfl
  have F2 : L2.Fun K "undo" "Evening.undo" sEvening_undo (He.ma K (He.ga K "Evening") "undo") fd := fun_of F
  exact ⟨fd, F2, F2.binds (ps := ["self"]) fun _ _ _ _ _ _ us hl => match us, hl with | [_], _ => rfl⟩
abbrev N_Evening_Call : List Str := ["self", "person", "taker"]
theorem sc_Evening_Call : FnScope N_Evening_Call ["self", "person"] (defScope sEvening_Call) := ⟨rfl, rfl, rfl, by decide +kernel, rfl, by decide +kernel, by decide +kernel⟩
theorem Tx.f_Evening_Call (T : Tx K mg) : ∃ fd, L2.Fun K "__call__" "Evening.__call__" sEvening_Call (He.ma K (He.ga K "Evening") "__call__") fd ∧ Binds K fd ["self", "person"] [] := by
  obtain ⟨fd, F⟩ := T.says.def_ 42 (d := dEvening_Call) rfl
  have F2 : L2.Fun K "__call__" "Evening.__call__" sEvening_Call (He.ma K (He.ga K "Evening") "__call__") fd := fun_of F
  exact ⟨fd, F2, F2.binds (ps := ["self", "person"]) fun _ _ _ _ _ _ us hl => match us, hl with | [_, _], _ => rfl⟩
abbrev N_Evening_Len : List Str := ["self"]
theorem sc_Evening_Len : FnScope N_Evening_Len ["self"] (defScope sEvening_Len) := ⟨rfl, rfl, rfl, by decide +kernel, rfl, by decide +kernel, by decide +kernel⟩
theorem Tx.f_Evening_Len (T : Tx K mg) : ∃ fd, L2.Fun K "__len__" "Evening.__len__" sEvening_Len (He.ma K (He.ga K "Evening") "__len__") fd ∧ Binds K fd ["self"] [] := by
  obtain ⟨fd, F⟩ := T.says.def_ 43 (d := dEvening_Len) rfl
  have F2 : L2.Fun K "__len__" "Evening.__len__" sEvening_Len (He.ma K (He.ga K "Evening") "__len__") fd := fun_of F
  exact ⟨fd, F2, F2.binds (ps := ["self"]) fun _ _ _ _ _ _ us hl => match us, hl with | [_], _ => rfl⟩
abbrev N_Evening_In : List Str := ["self", "person", "giver", "_"]
theorem sc_Evening_In : FnScope N_Evening_In ["self", "person"] (defScope sEvening_In) := ⟨rfl, rfl, rfl, by decide +kernel, rfl, by decide +kernel, by decide +kernel⟩
theorem Tx.f_Evening_In (T : Tx K mg) : ∃ fd, L2.Fun K "__contains__" "Evening.__contains__" sEvening_In (He.ma K (He.ga K "Evening") "__contains__") fd ∧ Binds K fd ["self", "person"] [] := by
  obtain ⟨fd, F⟩ := T.says.def_ 44 (d := dEvening_In) rfl
  have F2 : L2.Fun K "__contains__" "Evening.__contains__" sEvening_In (He.ma K (He.ga K "Evening") "__contains__") fd := fun_of F
  exact ⟨fd, F2, F2.binds (ps := ["self", "person"]) fun _ _ _ _ _ _ us hl => match us, hl with | [_, _], _ => rfl⟩
abbrev N_Book_Init : List Str := ["self", "party", "leaks", "people", "index", "leak", "free_rows", "giver", "may", "taker"]
theorem sc_Book_Init : FnScope N_Book_Init ["self", "party", "leaks"] (defScope sBook_Init) := ⟨rfl, rfl, rfl, by decide +kernel, rfl, by decide +kernel, by decide +kernel⟩
theorem Tx.f_Book_Init (T : Tx K mg) : ∃ fd, L2.Fun K "__init__" "Book.__init__" sBook_Init (He.ma K (He.ga K "Book") "__init__") fd ∧ Binds K fd ["self", "party", "leaks"] [] := by
  obtain ⟨fd, F⟩ := T.says.def_ 45 (d := dBook_Init) rfl
  have F2 : L2.Fun K "__init__" "Book.__init__" sBook_Init (He.ma K (He.ga K "Book") "__init__") fd := fun_of F
  exact ⟨fd, F2, F2.binds (ps := ["self", "party", "leaks"]) fun _ _ _ _ _ _ us hl => match us, hl with | [_, _, _], _ => rfl⟩
abbrev N_Book_party : List Str := ["self"]
theorem sc_Book_party : FnScope N_Book_party ["self"] (defScope sBook_party) := ⟨rfl, rfl, rfl, by decide +kernel, rfl, by decide +kernel, by decide +kernel⟩
theorem Tx.f_Book_party (T : Tx K mg) : ∃ fd, L2.Fun K "party" "Book.party" sBook_party (He.ma K (He.ga K "Book") "party") fd ∧ Binds K fd ["self"] [] := by
  obtain ⟨fd, F⟩ := T.says.def_ 46 (d := dBook_party) rfl
  have F2 : L2.Fun K "party" "Book.party" sBook_party (He.ma K (He.ga K "Book") "party") fd := fun_of F
  exact ⟨fd, F2, F2.binds (ps := ["self"]) fun _ _ _ _ _ _ us hl => match us, hl with | [_], _ => rfl⟩
abbrev N_Book_rows : List Str := ["self", "giver"]
theorem sc_Book_rows : FnScope N_Book_rows ["self"] (defScope sBook_rows) := ⟨rfl, rfl, rfl, by decide +kernel, rfl, by decide +kernel, by decide +kernel⟩
theorem Tx.f_Book_rows (T : Tx K mg) : ∃ fd, L2.Fun K "rows" "Book.rows" sBook_rows (He.ma K (He.ga K "Book") "rows") fd ∧ Binds K fd ["self"] [] := by
  obtain ⟨fd, F⟩ := T.says.def_ 47 (d := dBook_rows) rfl
  have F2 : L2.Fun K "rows" "Book.rows" sBook_rows (He.ma K (He.ga K "Book") "rows") fd := fun_of F
  exact ⟨fd, F2, F2.binds (ps := ["self"]) fun _ _ _ _ _ _ us hl => match us, hl with | [_], _ => rfl⟩
end
end G
set_option Elab.async false
set_option linter.all false
set_option maxRecDepth 100000
set_option maxHeartbeats 0
namespace G
open PySem PySem.Spec PyProof.Rows L2
def nm0 : List PySem.Str := ["_wall", "GiftError", "BadPeople", "BadPair", "BadLeak", "NoLeak", "NoName", "UnlikeParties", "Empty", "Taken", "NotTaken", "NoUndo", "Entered", "seek", "paired"]
def nm1 : List PySem.Str := ["owners_of", "reached", "table_rows", "fixed", "LETTERS", "MOST_PEOPLE", "MOST_BARRED", "is_name", "is_person", "are_different", "is_pair", "check_people", "check_pairs", "check_name", "Party"]
def nm2 : List PySem.Str := ["Evening", "MOST_LEAKS", "is_lot", "is_leak", "lets", "all_let", "Book", "drawing", "first", "table", "_law_cell", "_law_draws", "_law_people", "_law_barred", "_law_hidden"]
def nm3 : List PySem.Str := ["_law_lot", "_law_leak", "_law_lets", "_law_kept", "_law_mended", "_law_world", "_law_equal", "_law_ordered"]
def hdNames : List PySem.Str := nm0 ++ nm1 ++ nm2 ++ nm3
abbrev hdRow : PySem.W.OpenRow := PySem.W.OpenLaw.row PySem.Challenge.rw_giftrings_k75_whole_first_slips_make_the
abbrev hdHook : PySem.W.Hook := He.hookD 4 fa fn
def hdObs (s : PySem.W.SharedT) : He.AlD := He.obsDG 4 fa fn (HandSHeadRun.getT s)
theorem hdObs_eq (s : PySem.W.SharedT) : hdObs s = hdHook.obs s.abs := He.obsDG_eq (HandSHeadRun.getT_eq s)
theorem hdRun (w : World) : HandSHeadRun.RunEq hdRow (PySem.W.view hdRow.prog [60]) hdHook hdObs 20000 hdNames w := by
  intro os
  kernel_rfl
end G
set_option linter.all false
namespace GM
section
variable {α : Type} [DecidableEq α]

theorem len_le_of_sub : ∀ {A B : List α}, A.Nodup → (∀ x, x ∈ A → x ∈ B) → A.length ≤ B.length
  | [], _, _, _ => Nat.zero_le _
  | a :: A, B, hn, hs => by
    obtain ⟨ha, hA⟩ := List.nodup_cons.mp hn
    have hb : a ∈ B := hs a List.mem_cons_self
    have h1 : ∀ x, x ∈ A → x ∈ B.erase a := fun x hx => (List.mem_erase_of_ne (fun (e : x = a) => ha (e ▸ hx))).mpr (hs x (List.mem_cons_of_mem _ hx))
    have h2 := len_le_of_sub hA h1
    have h3 := List.length_erase_of_mem hb
    have h4 : 0 < B.length := List.length_pos_of_mem hb
    rw [List.length_cons]
    omega
theorem sub_of_len {A B : List α} (hn : A.Nodup) (hs : ∀ x, x ∈ A → x ∈ B) (hl : B.length ≤ A.length) : ∀ y, y ∈ B → y ∈ A := fun y hy => by
  apply Classical.byContradiction
  intro h
  have h1 : (y :: A).Nodup := List.nodup_cons.mpr ⟨h, hn⟩
  have h2 := len_le_of_sub (B := B) h1 (fun x hx => (List.mem_cons.mp hx).elim (fun e => e ▸ hy) (hs x))
  rw [List.length_cons] at h2
  omega
theorem nodup_map_on {β : Type} {f : α → β} : ∀ {A : List α}, A.Nodup → (∀ x, x ∈ A → ∀ y, y ∈ A → f x = f y → x = y) → (A.map f).Nodup
  | [], _, _ => List.nodup_nil
  | a :: A, hn, hi => by
    obtain ⟨ha, hA⟩ := List.nodup_cons.mp hn
    rw [List.map_cons]
    refine List.nodup_cons.mpr ⟨fun h => ?_, nodup_map_on hA fun x hx y hy => hi x (List.mem_cons_of_mem _ hx) y (List.mem_cons_of_mem _ hy)⟩
    obtain ⟨x, hx, e⟩ := List.mem_map.mp h
    have := hi x (List.mem_cons_of_mem _ hx) a List.mem_cons_self e
    exact ha (this ▸ hx)
theorem inj_surj {A : List α} {f : α → α} (hn : A.Nodup) (hm : ∀ x, x ∈ A → f x ∈ A) (hi : ∀ x, x ∈ A → ∀ y, y ∈ A → f x = f y → x = y) {y : α} (hy : y ∈ A) : ∃ x, x ∈ A ∧ f x = y := by
  have h1 : y ∈ A.map f := sub_of_len (nodup_map_on hn hi) (fun x hx => by obtain ⟨z, hz, rfl⟩ := List.mem_map.mp hx; exact hm z hz) (by rw [List.length_map]; exact Nat.le_refl _) y hy
  obtain ⟨x, hx, e⟩ := List.mem_map.mp h1
  exact ⟨x, hx, e⟩

structure WF (P : List α) (R : α → List α) : Prop where
  nd : P.Nodup
  cl : ∀ g, g ∈ P → ∀ t, t ∈ R g → t ∈ P
structure PM (P : List α) (R : α → List α) (M : α → α) : Prop where
  ed : ∀ g, g ∈ P → M g ∈ R g
  inj : ∀ x, x ∈ P → ∀ y, y ∈ P → M x = M y → x = y
def Poss (P : List α) (R : α → List α) (g t : α) : Prop := ∃ M, PM P R M ∧ M g = t
inductive Reach (P : List α) (R : α → List α) (M : α → α) (x : α) : α → Prop where
  | here : Reach P R M x x
  | on {y z : α} (h : Reach P R M x y) (hz : z ∈ P) (e : M z ∈ R y) : Reach P R M x z
inductive Way (P : List α) (R : α → List α) (M : α → α) (x : α) : List α → α → Prop where
  | here : Way P R M x [] x
  | on {l : List α} {y z : α} (h : Way P R M x l y) (hz : z ∈ P) (e : M z ∈ R y) (n1 : z ≠ y) (n2 : z ∉ l) : Way P R M x (y :: l) z
theorem Way.cut {P : List α} {R : α → List α} {M : α → α} {x : α} : ∀ {l : List α} {y : α}, Way P R M x l y → ∀ z, z = y ∨ z ∈ l → ∃ l', Way P R M x l' z := by
  intro l y h
  induction h with
  | here =>
    intro z hz
    rcases hz with e | e
    · subst e; exact ⟨_, .here⟩
    · cases e
  | @on l y z h hz e n1 n2 ih =>
    intro u hu
    rcases hu with e1 | e1
    · subst e1; exact ⟨_, .on h hz e n1 n2⟩
    · rcases List.mem_cons.mp e1 with e2 | e2
      · exact ih u (.inl e2)
      · exact ih u (.inr e2)
theorem Reach.way {P : List α} {R : α → List α} {M : α → α} {x y : α} (h : Reach P R M x y) : ∃ l, Way P R M x l y := by
  induction h with
  | here => exact ⟨_, .here⟩
  | @on y z h hz e ih =>
    obtain ⟨l, w⟩ := ih
    by_cases h1 : z = y
    · exact w.cut z (.inl h1)
    · by_cases h2 : z ∈ l
      · exact w.cut z (.inr h2)
      · exact ⟨_, .on w hz e h1 h2⟩
structure But (P : List α) (R : α → List α) (M N : α → α) (t : α) (l : List α) (y : α) : Prop where
  ed : ∀ g, g ∈ P → g ≠ y → N g ∈ R g
  inj : ∀ a, a ∈ P → a ≠ y → ∀ b, b ∈ P → b ≠ y → N a = N b → a = b
  free : ∀ g, g ∈ P → g ≠ y → N g ≠ t
  off : ∀ g, g ∉ l → N g = M g
theorem Way.but {P : List α} {R : α → List α} {M : α → α} {x : α} (hM : PM P R M) (hx : x ∈ P) : ∀ {l : List α} {y : α}, Way P R M x l y → y ∈ P ∧ (y ∈ P → x ∉ l ∨ x ≠ y) ∧ ∃ N, But P R M N (M x) l y := by
  intro l y h
  induction h with
  | here => exact ⟨hx, fun _ => .inl (by simp), M, ⟨fun g hg _ => hM.ed g hg, fun a ha _ b hb _ => hM.inj a ha b hb, fun g hg hn e => hn (hM.inj g hg x hx e), fun _ _ => rfl⟩⟩
  | @on l y z h hz e n1 n2 ih =>
    obtain ⟨hy, hxl, N, B⟩ := ih
    have hNz : N z = M z := B.off z n2
    have hzx : z ≠ x := by
      intro ez
      subst ez
      have : ∀ {l : List α} {y : α}, Way P R M z l y → z = y ∨ z ∈ l := by
        intro l y w
        induction w with
        | here => exact .inl rfl
        | on w _ _ _ _ ih => exact .inr (ih.elim (fun e => e ▸ List.mem_cons_self) (List.mem_cons_of_mem _))
      rcases this h with e1 | e1
      · exact n1 e1
      · exact n2 e1
    refine ⟨hz, fun _ => .inr (Ne.symm hzx), fun g => if g = y then M z else N g, ⟨fun g hg hn => ?_, fun a ha na b hb nb => ?_, fun g hg hn => ?_, fun g hg => ?_⟩⟩
    · show (if g = y then M z else N g) ∈ R g
      by_cases c : g = y
      · rw [if_pos c, c]; exact e
      · rw [if_neg c]; exact B.ed g hg c
    · show (if a = y then M z else N a) = (if b = y then M z else N b) → a = b
      by_cases c : a = y
      · rw [if_pos c]
        by_cases d : b = y
        · intro _; rw [c, d]
        · rw [if_neg d]
          intro q
          exact absurd (B.inj z hz n1 b hb d (hNz.trans q)).symm nb
      · rw [if_neg c]
        by_cases d : b = y
        · rw [if_pos d]
          intro q
          exact absurd (B.inj a ha c z hz n1 (q.trans hNz.symm)) na
        · rw [if_neg d]
          exact B.inj a ha c b hb d
    · show (if g = y then M z else N g) ≠ M x
      by_cases c : g = y
      · rw [if_pos c]
        exact fun q => hzx (hM.inj z hz x hx q)
      · rw [if_neg c]; exact B.free g hg c
    · show (if g = y then M z else N g) = M g
      rw [if_neg (fun (c : g = y) => hg (c ▸ List.mem_cons_self))]
      exact B.off g fun c => hg (List.mem_cons_of_mem _ c)
theorem poss_of_reach {P : List α} {R : α → List α} {M : α → α} (hM : PM P R M) {h g : α} (hh : h ∈ P) (hg : g ∈ P) (e : M h ∈ R g) (r : Reach P R M h g) : Poss P R g (M h) := by
  obtain ⟨l, w⟩ := r.way
  obtain ⟨_, _, N, B⟩ := w.but hM hh
  refine ⟨fun x => if x = g then M h else N x, ⟨fun x hx => ?_, fun a ha b hb => ?_⟩, if_pos rfl⟩
  · show (if x = g then M h else N x) ∈ R x
    by_cases c : x = g
    · rw [if_pos c, c]; exact e
    · rw [if_neg c]; exact B.ed x hx c
  · show (if a = g then M h else N a) = (if b = g then M h else N b) → a = b
    by_cases c : a = g
    · rw [if_pos c]
      by_cases d : b = g
      · intro _; rw [c, d]
      · rw [if_neg d]
        exact fun q => absurd q.symm (B.free b hb d)
    · rw [if_neg c]
      by_cases d : b = g
      · rw [if_pos d]
        exact fun q => absurd q (B.free a ha c)
      · rw [if_neg d]
        exact B.inj a ha c b hb d
theorem PM.surj {P : List α} {R : α → List α} {M : α → α} (w : WF P R) (hM : PM P R M) {t : α} (ht : t ∈ P) : ∃ h, h ∈ P ∧ M h = t :=
  inj_surj w.nd (fun x hx => w.cl x hx _ (hM.ed x hx)) hM.inj ht
theorem reach_mem {P : List α} {R : α → List α} {M : α → α} {x y : α} (hx : x ∈ P) (r : Reach P R M x y) : y ∈ P := by
  cases r with
  | here => exact hx
  | on _ hz _ => exact hz
open Classical in
theorem reach_of_poss {P : List α} {R : α → List α} {M : α → α} (w : WF P R) (hM : PM P R M) {h g : α} (hh : h ∈ P) (hg : g ∈ P) (p : Poss P R g (M h)) : Reach P R M h g := by
  obtain ⟨M', hM', e⟩ := p
  have ex : ∀ x, ∃ y, x ∈ P → y ∈ P ∧ M y = M' x := fun x => by
    by_cases hx : x ∈ P
    · obtain ⟨y, hy, q⟩ := hM.surj w (w.cl x hx _ (hM'.ed x hx))
      exact ⟨y, fun _ => ⟨hy, q⟩⟩
    · exact ⟨x, fun z => absurd z hx⟩
  let own : α → α := fun x => (ex x).choose
  have ho : ∀ x, x ∈ P → own x ∈ P ∧ M (own x) = M' x := fun x hx => (ex x).choose_spec hx
  have hinj : ∀ x, x ∈ P → ∀ y, y ∈ P → own x = own y → x = y := fun x hx y hy q => hM'.inj x hx y hy (by rw [← (ho x hx).2, ← (ho y hy).2, q])
  let X := P.filter fun x => decide (Reach P R M h x)
  have hX : ∀ x, x ∈ X ↔ x ∈ P ∧ Reach P R M h x := fun x => by
    show x ∈ P.filter _ ↔ _
    rw [List.mem_filter, decide_eq_true_eq]
  have eg : own g = h := hM.inj _ (ho g hg).1 _ hh ((ho g hg).2.trans e)
  obtain ⟨x, hx, q⟩ := inj_surj (A := X) (f := own) (w.nd.sublist List.filter_sublist)
    (fun x hx => by
      obtain ⟨h1, h2⟩ := (hX x).mp hx
      exact (hX _).mpr ⟨(ho x h1).1, h2.on (ho x h1).1 (by rw [(ho x h1).2]; exact hM'.ed x h1)⟩)
    (fun x hx y hy => hinj x ((hX x).mp hx).1 y ((hX y).mp hy).1) (y := h) ((hX h).mpr ⟨hh, .here⟩)
  have e2 := hinj x ((hX x).mp hx).1 g hg (q.trans eg.symm)
  exact e2 ▸ ((hX x).mp hx).2
theorem poss_iff {P : List α} {R : α → List α} {M : α → α} (w : WF P R) (hM : PM P R M) {h g : α} (hh : h ∈ P) (hg : g ∈ P) (e : M h ∈ R g) : Poss P R g (M h) ↔ Reach P R M h g :=
  ⟨reach_of_poss w hM hh hg, poss_of_reach hM hh hg e⟩

def hset (h : α → Option α) (t u : α) : α → Option α := fun x => if x = t then some u else h x
def cnt (P : List α) (h : α → Option α) (g : α) : Nat := P.countP fun t => decide (h t = some g)
theorem cnt_hset_out (h : α → Option α) (t u g : α) : ∀ {P : List α}, t ∉ P → cnt P (hset h t u) g = cnt P h g
  | [], _ => rfl
  | a :: P, hn => by
    have h1 : a ≠ t := fun e => hn (e ▸ List.mem_cons_self)
    have ih := cnt_hset_out h t u g (P := P) fun z => hn (List.mem_cons_of_mem _ z)
    unfold cnt at ih ⊢
    rw [List.countP_cons, List.countP_cons, ih]
    have e : hset h t u a = h a := if_neg h1
    rw [e]
theorem cnt_hset (h : α → Option α) (t u g : α) : ∀ {P : List α}, P.Nodup → t ∈ P → cnt P (hset h t u) g + (if h t = some g then 1 else 0) = cnt P h g + (if g = u then 1 else 0)
  | a :: P, hn, hm => by
    obtain ⟨ha, hP⟩ := List.nodup_cons.mp hn
    by_cases e : a = t
    · subst e
      have q := cnt_hset_out h a u g ha
      unfold cnt at q ⊢
      rw [List.countP_cons, List.countP_cons, q]
      have e1 : hset h a u a = some u := if_pos rfl
      rw [e1]
      by_cases c : g = u
      · subst c
        simp
        omega
      · have c' : ¬ (some u = some g) := fun z => c (Option.some.inj z).symm
        have c2 : ¬ u = g := fun z => c z.symm
        simp [c, c2]
    · have hm' : t ∈ P := (List.mem_cons.mp hm).resolve_left fun z => e z.symm
      have ih := cnt_hset h t u g hP hm'
      unfold cnt at ih ⊢
      rw [List.countP_cons, List.countP_cons]
      have e1 : hset h t u a = h a := if_neg e
      rw [e1]
      omega
theorem cnt_pos {P : List α} {h : α → Option α} {g t : α} (ht : t ∈ P) (e : h t = some g) : 0 < cnt P h g :=
  List.countP_pos_iff.mpr ⟨t, ht, by simp [e]⟩
theorem cnt_two {h : α → Option α} {g t t' : α} : ∀ {P : List α}, t ∈ P → t' ∈ P → t ≠ t' → h t = some g → h t' = some g → 2 ≤ cnt P h g
  | a :: P, h1, h2, ne, e1, e2 => by
    unfold cnt
    rw [List.countP_cons]
    by_cases c : a = t
    · have h3 : t' ∈ P := (List.mem_cons.mp h2).resolve_left fun z => ne (c.symm.trans z.symm)
      have h4 := cnt_pos h3 e2
      unfold cnt at h4
      subst c
      rw [if_pos (decide_eq_true e1)]
      omega
    · have h3 : t ∈ P := (List.mem_cons.mp h1).resolve_left fun z => c z.symm
      by_cases d : a = t'
      · have h4 := cnt_pos h3 e1
        unfold cnt at h4
        subst d
        rw [if_pos (decide_eq_true e2)]
        omega
      · have h5 : t' ∈ P := (List.mem_cons.mp h2).resolve_left fun z => d z.symm
        have h4 := cnt_two h3 h5 ne e1 e2
        unfold cnt at h4
        omega
def HOk (P : List α) (R : α → List α) (h : α → Option α) : Prop := ∀ t g, h t = some g → g ∈ P ∧ t ∈ R g
theorem HOk.set {P : List α} {R : α → List α} {h : α → Option α} (k : HOk P R h) {t u : α} (hu : u ∈ P) (e : t ∈ R u) : HOk P R (hset h t u) := fun x g q => by
  unfold hset at q
  by_cases c : x = t
  · rw [if_pos c] at q
    rw [c, ← Option.some.inj q]
    exact ⟨hu, e⟩
  · rw [if_neg c] at q
    exact k x g q
structure Aug (P : List α) (R : α → List α) (S : List α) (u : α) (h h' : α → Option α) : Prop where
  ok : HOk P R h'
  same : ∀ t, t ∈ S → h' t = h t
  cnt : ∀ g, cnt P h' g = cnt P h g + if g = u then 1 else 0
structure Dead (R : α → List α) (S S' : List α) (u : α) (h : α → Option α) : Prop where
  sub : ∀ t, t ∈ S → t ∈ S'
  row : ∀ t, t ∈ R u → t ∈ S'
  clo : ∀ t, t ∈ S' → t ∉ S → ∃ g, h t = some g ∧ ∀ y, y ∈ R g → y ∈ S'
theorem Aug.free {P : List α} {R : α → List α} {S : List α} {u t : α} {h : α → Option α} (w : WF P R) (k : HOk P R h) (hu : u ∈ P) (ht : t ∈ R u) (hs : t ∉ S) (e : h t = none) : Aug P R S u h (hset h t u) where
  ok := k.set hu ht
  same := fun x hx => if_neg fun (q : x = t) => hs (q ▸ hx)
  cnt := fun g => by
    have q := cnt_hset h t u g w.nd (w.cl u hu t ht)
    have e2 : ¬ h t = some g := fun z => by rw [e] at z; cases z
    rw [if_neg e2] at q
    exact q
theorem Aug.moved {P : List α} {R : α → List α} {S S1 : List α} {u t v : α} {h h1 : α → Option α} (w : WF P R) (hu : u ∈ P) (ht : t ∈ R u) (hs : t ∉ S) (hS : ∀ x, x ∈ S → x ∈ S1) (ht1 : t ∈ S1) (e : h t = some v) (a : Aug P R S1 v h h1) :
    Aug P R S u h (hset h1 t u) where
  ok := a.ok.set hu ht
  same := fun x hx => by
    have q : hset h1 t u x = h1 x := if_neg fun (q : x = t) => hs (q ▸ hx)
    rw [q]
    exact a.same x (hS x hx)
  cnt := fun g => by
    have q := cnt_hset h1 t u g w.nd (w.cl u hu t ht)
    rw [a.same t ht1, e, a.cnt g] at q
    by_cases c : g = v
    · subst c
      simp only [if_true] at q
      omega
    · have c2 : ¬ some v = some g := fun z => c (Option.some.inj z).symm
      rw [if_neg c2, if_neg c] at q
      exact q
theorem Dead.none {P : List α} {R : α → List α} {S' : List α} {u : α} {h : α → Option α} (w : WF P R) (k : HOk P R h) (hu : u ∈ P) (h1 : ∀ g, cnt P h g ≤ 1) (h0 : cnt P h u = 0) (hn : S'.Nodup) (d : Dead R [] S' u h) : ¬ ∃ M, PM P R M := by
  rintro ⟨M, hM⟩
  have hg : ∀ t, t ∈ S' → ∃ g, h t = some g ∧ ∀ y, y ∈ R g → y ∈ S' := fun t ht => d.clo t ht (by simp)
  let own : α → α := fun t => (h t).getD u
  have ho : ∀ t, t ∈ S' → h t = some (own t) ∧ own t ∈ P ∧ t ∈ R (own t) ∧ ∀ y, y ∈ R (own t) → y ∈ S' := fun t ht => by
    obtain ⟨g, e, q⟩ := hg t ht
    have e2 : own t = g := by
      show (h t).getD u = g
      rw [e] <;> rfl
    rw [e2]
    exact ⟨e, (k t g e).1, (k t g e).2, q⟩
  have tP : ∀ t, t ∈ S' → t ∈ P := fun t ht => w.cl _ (ho t ht).2.1 t (ho t ht).2.2.1
  let G := u :: S'.map own
  have nG : G.Nodup := by
    refine List.nodup_cons.mpr ⟨fun hm => ?_, nodup_map_on hn fun x hx y hy q => ?_⟩
    · obtain ⟨t, ht, e⟩ := List.mem_map.mp hm
      have := cnt_pos (tP t ht) (e ▸ (ho t ht).1)
      omega
    · apply Classical.byContradiction
      intro ne
      have := cnt_two (tP x hx) (tP y hy) ne (ho x hx).1 (q ▸ (ho y hy).1)
      have := h1 (own x)
      omega
  have gP : ∀ g, g ∈ G → g ∈ P ∧ ∀ y, y ∈ R g → y ∈ S' := fun g hm => by
    rcases List.mem_cons.mp hm with e | e
    · subst e; exact ⟨hu, d.row⟩
    · obtain ⟨t, ht, e⟩ := List.mem_map.mp e
      subst e
      exact ⟨(ho t ht).2.1, (ho t ht).2.2.2⟩
  have nM : (G.map M).Nodup := nodup_map_on nG fun x hx y hy => hM.inj x (gP x hx).1 y (gP y hy).1
  have sM : ∀ y, y ∈ G.map M → y ∈ S' := fun y hy => by
    obtain ⟨g, hm, e⟩ := List.mem_map.mp hy
    subst e
    exact (gP g hm).2 _ (hM.ed g (gP g hm).1)
  have l := len_le_of_sub nM sM
  rw [List.length_map] at l
  show False
  have l2 : G.length = S'.length + 1 := by
    show (S'.map own).length + 1 = _
    rw [List.length_map]
  omega
theorem cnt_one {P : List α} {h : α → Option α} {g : α} (e : cnt P h g = 1) : ∃ t, t ∈ P ∧ h t = some g ∧ ∀ t', t' ∈ P → h t' = some g → t' = t := by
  have p : 0 < cnt P h g := by omega
  obtain ⟨t, ht, q⟩ := List.countP_pos_iff.mp p
  have q' : h t = some g := of_decide_eq_true q
  refine ⟨t, ht, q', fun t' ht' q2 => ?_⟩
  apply Classical.byContradiction
  intro ne
  have := cnt_two ht' ht ne q2 q'
  omega
theorem all_held {P : List α} {R : α → List α} {h : α → Option α} (k : HOk P R h) (h1 : ∀ g, g ∈ P → cnt P h g = 1) : ∃ M, PM P R M ∧ ∀ g, g ∈ P → M g ∈ P ∧ h (M g) = some g ∧ ∀ t, t ∈ P → h t = some g → t = M g := by
  have ex : ∀ g, ∃ t, g ∈ P → t ∈ P ∧ h t = some g ∧ ∀ t', t' ∈ P → h t' = some g → t' = t := fun g => by
    by_cases hg : g ∈ P
    · obtain ⟨t, q⟩ := cnt_one (h1 g hg)
      exact ⟨t, fun _ => q⟩
    · exact ⟨g, fun z => absurd z hg⟩
  have hs : ∀ g, g ∈ P → (ex g).choose ∈ P ∧ h (ex g).choose = some g ∧ ∀ t', t' ∈ P → h t' = some g → t' = (ex g).choose := fun g hg => (ex g).choose_spec hg
  refine ⟨fun g => (ex g).choose, ⟨fun g hg => (k _ g (hs g hg).2.1).2, fun x hx y hy q => ?_⟩, hs⟩
  have e1 := (hs x hx).2.1
  have q : (ex x).choose = (ex y).choose := q
  rw [q, (hs y hy).2.1] at e1
  exact (Option.some.inj e1).symm
end
end GM
set_option linter.all false
namespace GM
section
variable {α : Type} [DecidableEq α]
noncomputable def possB (P : List α) (R : α → List α) (g t : α) : Bool := @decide (Poss P R g t) (Classical.propDecidable _)
theorem possB_iff {P : List α} {R : α → List α} {g t : α} : possB P R g t = true ↔ Poss P R g t := by
  unfold possB
  exact @decide_eq_true_iff _ (Classical.propDecidable _)
noncomputable def tblF (P : List α) (R : α → List α) (g : α) : List α := (R g).filter fun t => possB P R g t
def fixF (R : α → List α) (g t : α) (o : α) : List α := if o = g then (R o).filter fun n => decide (n = t) else (R o).filter fun n => decide (n ≠ t)
theorem mem_tblF {P : List α} {R : α → List α} {g t : α} : t ∈ tblF P R g ↔ t ∈ R g ∧ Poss P R g t := by
  unfold tblF
  rw [List.mem_filter, possB_iff]
theorem mem_fixF {R : α → List α} {g t o x : α} : x ∈ fixF R g t o ↔ x ∈ R o ∧ (o = g ↔ x = t) := by
  unfold fixF
  by_cases c : o = g
  · rw [if_pos c, List.mem_filter, decide_eq_true_eq]
    exact ⟨fun h => ⟨h.1, fun _ => h.2, fun _ => c⟩, fun h => ⟨h.1, h.2.mp c⟩⟩
  · rw [if_neg c, List.mem_filter, decide_eq_true_eq]
    exact ⟨fun h => ⟨h.1, fun z => absurd z c, fun z => absurd z h.2⟩, fun h => ⟨h.1, fun z => c (h.2.mpr z)⟩⟩
theorem WF.fix {P : List α} {R : α → List α} (w : WF P R) (g t : α) : WF P (fixF R g t) := ⟨w.nd, fun o ho x hx => w.cl o ho x (mem_fixF.mp hx).1⟩
theorem PM.fix {P : List α} {R : α → List α} {g t : α} {M : α → α} (h : PM P R M) (hg : g ∈ P) (e : M g = t) : PM P (fixF R g t) M :=
  ⟨fun o ho => mem_fixF.mpr ⟨h.ed o ho, fun c => c ▸ e, fun c => h.inj o ho g hg (c.trans e.symm)⟩, h.inj⟩
theorem PM.other {P P' : List α} {R : α → List α} {M : α → α} (hP : ∀ x, x ∈ P ↔ x ∈ P') (h : PM P R M) : PM P' R M :=
  ⟨fun g hg => h.ed g ((hP g).mpr hg), fun x hx y hy => h.inj x ((hP x).mpr hx) y ((hP y).mpr hy)⟩
theorem poss_other {P P' : List α} {R : α → List α} (hP : ∀ x, x ∈ P ↔ x ∈ P') (g t : α) : Poss P R g t ↔ Poss P' R g t :=
  ⟨fun ⟨M, h, e⟩ => ⟨M, h.other hP, e⟩, fun ⟨M, h, e⟩ => ⟨M, h.other fun x => (hP x).symm, e⟩⟩
theorem tblF_other {P P' : List α} {R : α → List α} (hP : ∀ x, x ∈ P ↔ x ∈ P') : tblF P R = tblF P' R := by
  funext g
  unfold tblF
  refine List.filter_congr fun t _ => ?_
  exact Bool.eq_iff_iff.mpr (possB_iff.trans ((poss_other hP g t).trans possB_iff.symm))
theorem tblF_nil {P : List α} {R : α → List α} (h : ¬ ∃ M, PM P R M) (g : α) : tblF P R g = [] := by
  unfold tblF
  refine List.filter_eq_nil_iff.mpr fun t _ => ?_
  rw [possB_iff]
  exact fun ⟨M, hM, _⟩ => h ⟨M, hM⟩
theorem tblF_ne {P : List α} {R : α → List α} {M : α → α} (h : PM P R M) {g : α} (hg : g ∈ P) : tblF P R g ≠ [] := fun e => by
  have h1 : M g ∈ tblF P R g := mem_tblF.mpr ⟨h.ed g hg, M, h, rfl⟩
  rw [e] at h1
  cases h1
noncomputable def pick (P : List α) (R : α → List α) (g : α) : α := (tblF P R g).headD g
theorem pick_cons {P : List α} {R : α → List α} {M : α → α} (h : PM P R M) {g : α} (hg : g ∈ P) : ∃ r, tblF P R g = pick P R g :: r := by
  unfold pick
  cases e : tblF P R g with
  | nil => exact absurd e (tblF_ne h hg)
  | cons x r => exact ⟨r, rfl⟩
theorem pick_poss {P : List α} {R : α → List α} {M : α → α} (h : PM P R M) {g : α} (hg : g ∈ P) : pick P R g ∈ R g ∧ ∃ M', PM P R M' ∧ M' g = pick P R g := by
  obtain ⟨r, e⟩ := pick_cons h hg
  have h1 : pick P R g ∈ tblF P R g := by
    rw [e]
    exact List.mem_cons_self
  exact mem_tblF.mp h1
noncomputable def rowsK (P : List α) (R : α → List α) (ord : List α) : Nat → α → List α
  | 0 => R
  | k + 1 => match ord[k]? with
    | some g => fixF (rowsK P R ord k) g (pick P (rowsK P R ord k) g)
    | none => rowsK P R ord k
noncomputable def taks (P : List α) (R : α → List α) (ord : List α) : Nat → List (α × α)
  | 0 => []
  | k + 1 => match ord[k]? with
    | some g => taks P R ord k ++ [(g, pick P (rowsK P R ord k) g)]
    | none => taks P R ord k
section
variable {P : List α} {R : α → List α} {ord : List α}
theorem rowsK_succ {k : Nat} {g : α} (h : ord[k]? = some g) : rowsK P R ord (k + 1) = fixF (rowsK P R ord k) g (pick P (rowsK P R ord k) g) := by
  show (match ord[k]? with
    | some g => fixF (rowsK P R ord k) g (pick P (rowsK P R ord k) g)
    | none => rowsK P R ord k) = _
  rw [h]
theorem taks_succ {k : Nat} {g : α} (h : ord[k]? = some g) : taks P R ord (k + 1) = taks P R ord k ++ [(g, pick P (rowsK P R ord k) g)] := by
  show (match ord[k]? with
    | some g => taks P R ord k ++ [(g, pick P (rowsK P R ord k) g)]
    | none => taks P R ord k) = _
  rw [h]
theorem rowsK_ok (w : WF P R) (hp : ∃ M, PM P R M) (hs : ∀ x, x ∈ ord → x ∈ P) : ∀ k : Nat, WF P (rowsK P R ord k) ∧ ∃ M, PM P (rowsK P R ord k) M
  | 0 => ⟨w, hp⟩
  | k + 1 => by
    obtain ⟨w1, M, hM⟩ := rowsK_ok w hp hs k
    cases e : ord[k]? with
    | none =>
      have q : rowsK P R ord (k + 1) = rowsK P R ord k := by
        show (match ord[k]? with
          | some g => fixF (rowsK P R ord k) g (pick P (rowsK P R ord k) g)
          | none => rowsK P R ord k) = _
        rw [e]
      rw [q]
      exact ⟨w1, M, hM⟩
    | some g =>
      rw [rowsK_succ e]
      have hg : g ∈ P := hs g (List.mem_of_getElem? e)
      obtain ⟨_, M', hM', e'⟩ := pick_poss hM hg
      exact ⟨w1.fix _ _, M', hM'.fix hg e'⟩
theorem rowsK_sub {g t : α} : ∀ k : Nat, t ∈ rowsK P R ord k g → t ∈ R g
  | 0, h => h
  | k + 1, h => by
    cases e : ord[k]? with
    | none =>
      have q : rowsK P R ord (k + 1) = rowsK P R ord k := by
        show (match ord[k]? with
          | some g => fixF (rowsK P R ord k) g (pick P (rowsK P R ord k) g)
          | none => rowsK P R ord k) = _
        rw [e]
      rw [q] at h
      exact rowsK_sub k h
    | some x =>
      rw [rowsK_succ e] at h
      exact rowsK_sub k (mem_fixF.mp h).1
theorem taks_fold : ∀ k : Nat, (taks P R ord k).foldl (fun S p => fixF S p.1 p.2) R = rowsK P R ord k
  | 0 => rfl
  | k + 1 => by
    cases e : ord[k]? with
    | none =>
      have q : rowsK P R ord (k + 1) = rowsK P R ord k := by
        show (match ord[k]? with
          | some g => fixF (rowsK P R ord k) g (pick P (rowsK P R ord k) g)
          | none => rowsK P R ord k) = _
        rw [e]
      have q2 : taks P R ord (k + 1) = taks P R ord k := by
        show (match ord[k]? with
          | some g => taks P R ord k ++ [(g, pick P (rowsK P R ord k) g)]
          | none => taks P R ord k) = _
        rw [e]
      rw [q, q2, taks_fold k]
    | some g =>
      rw [rowsK_succ e, taks_succ e, List.foldl_append, taks_fold k]
      rfl
theorem taks_len : ∀ k : Nat, k ≤ ord.length → (taks P R ord k).length = k
  | 0, _ => rfl
  | k + 1, h => by
    have e : ord[k]? = some ord[k] := List.getElem?_eq_getElem (by omega)
    rw [taks_succ e, List.length_append, taks_len k (by omega)]
    rfl
theorem taks_get : ∀ (k i : Nat) (g : α), k ≤ ord.length → i < k → ord[i]? = some g → (taks P R ord k)[i]? = some (g, pick P (rowsK P R ord i) g)
  | 0, _, _, _, h, _ => absurd h (Nat.not_lt_zero _)
  | k + 1, i, g, hk, hi, e => by
    have ek : ord[k]? = some ord[k] := List.getElem?_eq_getElem (by omega)
    have hl : (taks P R ord k).length = k := taks_len k (by omega)
    rw [taks_succ ek]
    by_cases c : i = k
    · subst c
      rw [ek] at e
      have e2 : ord[i] = g := Option.some.inj e
      rw [List.getElem?_append_right (by omega), hl, Nat.sub_self, e2]
      rfl
    · rw [List.getElem?_append_left (by omega)]
      exact taks_get k i g (by omega) (by omega) e
theorem taks_mem {p : α × α} : ∀ k : Nat, k ≤ ord.length → p ∈ taks P R ord k → ∃ i, i < k ∧ ord[i]? = some p.1 ∧ p.2 = pick P (rowsK P R ord i) p.1
  | 0, _, h => by cases h
  | k + 1, hk, h => by
    have ek : ord[k]? = some ord[k] := List.getElem?_eq_getElem (by omega)
    rw [taks_succ ek] at h
    rcases List.mem_append.mp h with h | h
    · obtain ⟨i, hi, q⟩ := taks_mem k (by omega) h
      exact ⟨i, by omega, q⟩
    · have e := List.mem_singleton.mp h
      subst e
      exact ⟨k, by omega, ek, rfl⟩
theorem rowsK_stay {k : Nat} {g : α} (e : ord[k]? = some g) : ∀ m : Nat, k < m → ∀ t, t ∈ rowsK P R ord m g → t = pick P (rowsK P R ord k) g
  | 0, h, _, _ => absurd h (Nat.not_lt_zero _)
  | m + 1, h, t, ht => by
    by_cases c : k = m
    · subst c
      rw [rowsK_succ e] at ht
      exact (mem_fixF.mp ht).2.mp rfl
    · cases em : ord[m]? with
      | none =>
        have q : rowsK P R ord (m + 1) = rowsK P R ord m := by
          show (match ord[m]? with
            | some g => fixF (rowsK P R ord m) g (pick P (rowsK P R ord m) g)
            | none => rowsK P R ord m) = _
          rw [em]
        rw [q] at ht
        exact rowsK_stay e m (by omega) t ht
      | some x =>
        rw [rowsK_succ em] at ht
        exact rowsK_stay e m (by omega) t (mem_fixF.mp ht).1
theorem rowsK_last (w : WF P R) (hp : ∃ M, PM P R M) (hs : ∀ x, x ∈ ord → x ∈ P) {k m : Nat} {g : α} (e : ord[k]? = some g) (hm : k < m) : ∃ r, rowsK P R ord m g = pick P (rowsK P R ord k) g :: r := by
  obtain ⟨_, M, hM⟩ := rowsK_ok w hp hs m
  have h1 := hM.ed g (hs g (List.mem_of_getElem? e))
  cases q : rowsK P R ord m g with
  | nil =>
    rw [q] at h1
    cases h1
  | cons x r =>
    have h2 := rowsK_stay (P := P) (R := R) e m hm x (by rw [q]; exact List.mem_cons_self)
    exact ⟨r, by rw [h2]⟩
end
theorem rowsK_other {P P' : List α} {R : α → List α} {ord : List α} (hP : ∀ x, x ∈ P ↔ x ∈ P') : ∀ k : Nat, rowsK P R ord k = rowsK P' R ord k
  | 0 => rfl
  | k + 1 => by
    have ih := rowsK_other (R := R) (ord := ord) hP k
    have hp : ∀ (S : α → List α) g, pick P S g = pick P' S g := fun S g => by
      unfold pick
      rw [tblF_other hP]
    show (match ord[k]? with
      | some g => fixF (rowsK P R ord k) g (pick P (rowsK P R ord k) g)
      | none => rowsK P R ord k) = (match ord[k]? with
      | some g => fixF (rowsK P' R ord k) g (pick P' (rowsK P' R ord k) g)
      | none => rowsK P' R ord k)
    rw [ih]
    cases ord[k]? with
    | none => rfl
    | some g => show fixF _ g (pick P _ g) = fixF _ g (pick P' _ g); rw [hp]
end
end GM
set_option Elab.async false
set_option linter.all false
set_option maxRecDepth 100000
set_option maxHeartbeats 4000000
namespace PySem
open Sem (wp)
open AutoSeq1 (wpAny_loadPart')
set_option maxHeartbeats 4000000 in
theorem enum0_made {v : Value} {o : Obj} {G : Heap → Prop} (B : Begins v o G) :
    Meets (Builtin.«enumerate.__new__» ⟨[.type "enumerate", v], []⟩) (fun _ R s => G s.heap ∧ R (.ok (.ret (.ref (s.heap.objs.size + 1))))
      { s with heap := (s.heap.push o).push { cls := .type "enumerate", data := .fields #[.none, .bool false, .ref s.heap.objs.size, rawInt 0, .none, .none] } }) :=
  .of_wp fun prog w A R s hq => by
    obtain ⟨hp, g, d, tk, os⟩ := s
    obtain ⟨g1, q⟩ := hq
    have sz : (hp.push o).objs.size = hp.objs.size + 1 := Heap.size_push ..
    have hsub := sub_enumerate
    have it1 : ∀ {A' : Around} {E : Value → Shared → Prop} {Q : Value → Shared → Prop}, Q (.ref hp.objs.size) ⟨hp.push o, g, d, tk, os⟩ → wpAny (model prog w) A' (pyIter v) Q E ⟨hp, g, d, tk, os⟩ :=
      fun z => B.iter prog w _ _ ⟨hp, g, d, tk, os⟩ _ g1 z
    have fin : R (.ok (.ret (.ref (hp.push o).objs.size))) ⟨(hp.push o).push { cls := .type "enumerate", data := .fields #[.none, .bool false, .ref hp.objs.size, rawInt 0, .none, .none] }, g, d, tk, os⟩ := by
      rw [sz]
      exact q
    wp_walk using it1
    refine wpAny_stack_any fun st => wpAny_pure ?_
    split
    · rename_i c _ _ _ _ _
      cases (c == Value.type "enumerate") <;> (wp_walk using it1; exact ⟨_, rfl, fin⟩)
    · wp_walk using it1
      exact ⟨_, rfl, fin⟩
section
variable {prog : Program} {w : World} {A : Around} {E : Value → Shared → Prop} {s : Shared}
theorem enum0_call {v : Value} {o : Obj} {G : Heap → Prop} {Q : Value → Shared → Prop} (B : Begins v o G) (g1 : G s.heap)
    (h : ∀ h', IsEnum h' (s.heap.objs.size + 1) s.heap.objs.size 0 .none → h'.get? s.heap.objs.size = some o → (∀ b u, s.heap.get? b = some u → h'.get? b = some u) → Q (.ref (s.heap.objs.size + 1)) { s with heap := h' }) :
    wpAny (model prog w) A (call (.type "enumerate") [v]) Q E s := by
  refine callType_new F.called_enumerate (by decide) (F.typeCall_enumerate_1 _) (F.newCall_enumerate_1 _) (fun obj => F.args_object_init_2 obj _) F.entry_enumerate_new (enum0_made B) ⟨g1, ?_⟩
  have sz : (s.heap.push o).objs.size = s.heap.objs.size + 1 := Heap.size_push ..
  have he : ((s.heap.push o).push { cls := .type "enumerate", data := .fields #[.none, .bool false, .ref s.heap.objs.size, rawInt 0, .none, .none] }).get? (s.heap.objs.size + 1) = some { cls := .type "enumerate", data := .fields #[.none, .bool false, .ref s.heap.objs.size, rawInt 0, .none, .none] } := by
    rw [← sz]
    exact Heap.get?_push_size _ rfl
  exact ⟨⟨_, he, rfl⟩, h _ he (Heap.get?_push_of_some _ (Heap.get?_push_size _ B.free)) fun b u z => Heap.get?_push_of_some _ (Heap.get?_push_of_some _ z)⟩
end
end PySem
namespace L2
open PySem PySem.Spec PyProof.Rows
def IteT (K : PySem.W.Frag) (a : Addr) : It :=
  ⟨fun i H => ∃ (xs : List V) (x : V), SqT K H a xs ∧ xs[i]? = some x, fun i H v H' => ∃ T x, v = .ref T ∧ H T = none ∧ H' = upd H T (.tup [.int (i : Nat), x]) ∧ ∀ xs, SqT K H a xs → xs[i]? = some x, fun i H => ∃ xs : List V, SqT K H a xs ∧ i = xs.length⟩
theorem turn_enumT {P : Program} {w : World} {K : PySem.W.Frag} {elts : List Expr} {kk : Nat} {tpos : Pos} (a e it : Addr) :
    Turn P w K (.Tuple elts kk tpos) (IteT K a) [e, it] e (fun i h => (∃ old, IsEnum h e it ((i : Nat) : Int) old) ∧ h.IsTupleIter it a i ∧ e ≠ it) where
  mem := List.mem_cons_self
  obj := fun i h st b hb => by
    obtain ⟨⟨old, he⟩, ⟨o, ho, _, hd⟩, _⟩ := st
    rcases List.mem_cons.mp hb with z | z
    · subst z
      exact ⟨_, he, fun v q => nomatch q⟩
    · rw [List.mem_singleton.mp z]
      exact ⟨o, ho, fun v q => by rw [hd] at q; cases q⟩
  keep := fun i h h' st k => ⟨st.1.imp fun _ he => k e (by simp) _ he, st.2.1.at fun o q => k it (by simp) o q, st.2.2⟩
  item := by
    intro X hP hw hK hc i pins s σ H E I hf st hg
    subst hP hw hK
    obtain ⟨⟨old, he⟩, hit, ne⟩ := st
    obtain ⟨xs, x, hq, hx⟩ := hg
    obtain ⟨its, rv, p, hz⟩ := I.tuple hq
    obtain ⟨u, hu, ru⟩ := rv.get hx
    have le : e < s.heap.objs.size := Heap.lt_size he
    have li : it < s.heap.objs.size := let ⟨_, q, _⟩ := hit; Heap.lt_size q
    have ea : e ≠ a := fun z => by
      obtain ⟨o, ho, hc, _⟩ := p
      rw [← z, he] at ho
      cases ho
      exact absurd (Value.type.inj hc) (by decide)
    have ai : a ≠ it := fun z => by
      obtain ⟨o, ho, hc, _⟩ := p
      obtain ⟨o2, ho2, hc2, _⟩ := hit
      rw [z, ho2] at ho
      cases ho
      rw [hc2] at hc
      exact absurd (Value.type.inj hc) (by decide)
    have Dr := Draws.tuple (prog := X.prog) (w := X.w) (A := X.A.in1) (I.ok.hd hc) it a ai its.toArray
    have lt : i < its.toArray.size := by
      obtain ⟨z, _⟩ := List.getElem?_eq_some_iff.mp hu
      simpa using z
    refine wpAny_pyNext_enum_itemD Dr he ⟨hit, p⟩ lt ne (by simp; exact ⟨ne, ea⟩) fun y h' tk hy ho st' hT hsz hk => ?_
    have ey : y = u := by
      have z : its.toArray[i]? = some y := hy
      have z2 : its[i]? = some y := by simpa using z
      rw [hu] at z2
      exact (Option.some.inj z2).symm
    subst ey
    refine ⟨_, rfl, wpAny_letOwnedTupleGo_enum (s := { s with heap := h', toks := tk + 1 }) ho fun h'' he' sb => ?_⟩
    have big : ∀ b, b < s.heap.objs.size → b ≠ s.heap.objs.size := fun b hb => Nat.ne_of_lt hb
    have hT2 : h''.get? s.heap.objs.size = some { cls := .type "tuple", data := .seq #[.int i tk, y] } := (sb.2 _ (Ne.symm (big e le))).trans hT
    have new : ObjOk X.prog X.w (upd H s.heap.objs.size (.tup [.int (i : Nat), x])) h'' s.heap.objs.size (.tup [.int (i : Nat), x]) :=
      ⟨(by decide : 2 ≤ sizeLine), [.int i tk, y], .cons ⟨_, rfl⟩ (.cons ru .nil), ⟨_, hT2, rfl, _, rfl⟩⟩
    have I1 : Inv X pins σ (upd H s.heap.objs.size (.tup [.int (i : Nat), x])) { s with heap := h'', toks := tk + 1 } :=
      I.turnedNew (ch := [e, it]) (fun b ob hb q => (sb.2 b fun z => hb (z ▸ List.mem_cons_self)).trans (hk b ob (fun z => hb (z ▸ List.mem_cons_self)) (fun z => hb (by rw [z]; simp)) q)) hf (Nat.le_refl _) new
    refine ⟨.ref s.heap.objs.size, _, I1, rfl, ⟨_, x, rfl, I.hok.fresh (Nat.le_refl _), rfl, fun ys hy => ?_⟩, ⟨⟨y, ?_⟩, st'.1.at fun o q => (sb.2 it (Ne.symm ne)).trans q, ne⟩, fun b hb => ?_⟩
    · rw [I.tuple_inj hy hq]
      exact hx
    · rw [show ((i + 1 : Nat) : Int) = (i : Int) + 1 by omega]
      exact he'
    · have lb : b < s.heap.objs.size := by
        rcases List.mem_cons.mp hb with z | z
        · rw [z]; exact le
        · rw [List.mem_singleton.mp z]; exact li
      rw [upd_ne (big b lb)]
      exact (hf b hb).1
  done := by
    intro X hP hw hK hc i pins s σ H E I hf st hg
    subst hP hw hK
    obtain ⟨⟨old, he⟩, hit, ne⟩ := st
    obtain ⟨xs, hq, ei⟩ := hg
    obtain ⟨its, rv, p, hz⟩ := I.tuple hq
    have ai : a ≠ it := fun z => by
      obtain ⟨o, ho, hc, _⟩ := p
      obtain ⟨o2, ho2, hc2, _⟩ := hit
      rw [z, ho2] at ho
      cases ho
      rw [hc2] at hc
      exact absurd (Value.type.inj hc) (by decide)
    have Dr := Draws.tuple (prog := X.prog) (w := X.w) (A := X.A.in1) (I.ok.hd hc) it a ai its.toArray
    have en : i = its.toArray.size := by
      rw [ei, rv.length]
      simp
    rw [en] at hit
    refine wpAny_pyNext_enum_endD Dr he ⟨hit, p⟩ fun h' eb => ⟨rfl, ?_⟩
    obtain ⟨f0, f1, f2, f3, f4, f5⟩ := hf it (by simp)
    exact I.turned (t' := s.toks) (fun b o hb q => eb b o hb q) f0 f1 f3 f4 f5
  self := fun A i s Q E st h => let ⟨⟨_, he⟩, _, _⟩ := st; wpAny_pyIter_enum he h
def iEnumT (K : PySem.W.Frag) (ta : TA) : TI := fun σ H R => ta σ H fun vs H1 => ∃ a xs, vs = [.ref a] ∧ SqT K H1 a xs ∧ R (IteT K a) H1
theorem pi_enumT {X : Cx} {e : Expr} {ta : TA} {p pos tpos : Pos} {elts : List Expr} {kk : Nat} (hg : Gl X "enumerate") (hm : X.mg "enumerate" = none) (ha : PA X [e] ta) (hs : starEach [e] X.env = [(false, eval e X.env)] := by rfl) :
    PI X (.Tuple elts kk tpos) (.Call (.Name "enumerate" p) [e] [] pos) (iEnumT X.K ta) := by
  refine ⟨fun pins s σ H R I h => ?_⟩
  refine Call_ (ld_blt I hg hm boot_enumerate (PyProof.Rows.callWith_type1 (thn (ha.run pos pins s σ H _ I h) fun us s1 z => ?_) hs rfl))
  obtain ⟨vs, H1, I1, r1, a, xs, ex, hq, q⟩ := z
  subst ex
  obtain ⟨u, rfl, ru⟩ := vals1 r1
  cases (show u = Value.ref a from ru)
  obtain ⟨its, rv, p', hz⟩ := I1.tuple hq
  refine enum0_call (begins_tuple a its.toArray) p' fun h' he hit hk => wpAny_pyIter_enum he ?_
  have I2 : Inv X pins σ H1 { s1 with heap := h' } := I1.kept (t' := s1.toks) hk
  refine ⟨s1.heap.objs.size + 1, [s1.heap.objs.size + 1, s1.heap.objs.size], _, _, H1, rfl, I2, turn_enumT a (s1.heap.objs.size + 1) s1.heap.objs.size, ⟨⟨.none, he⟩, ⟨_, hit, rfl, rfl⟩, Nat.succ_ne_self _⟩, fun b hb => ?_, q⟩
  have le : s1.heap.objs.size ≤ b := by
    rcases List.mem_cons.mp hb with z | z
    · rw [z]; exact Nat.le_succ _
    · rw [List.mem_singleton.mp z]; exact Nat.le_refl _
  exact I1.fpOk le (I1.hok.fresh le)
end L2
set_option Elab.async false
set_option linter.all false
set_option maxRecDepth 100000
set_option maxHeartbeats 4000000
namespace G
open PySem PySem.Spec PyProof.Rows L2
def txs (l : List Str) : List V := l.map V.str
theorem txs_len (l : List Str) : (txs l).length = l.length := List.length_map ..
theorem txs_get {l : List Str} {i : Nat} {v : V} (h : (txs l)[i]? = some v) : ∃ s, l[i]? = some s ∧ v = .str s := by
  unfold txs at h
  rw [List.getElem?_map] at h
  cases e : l[i]? with
  | none => rw [e] at h; cases h
  | some s => rw [e] at h; exact ⟨s, rfl, (Option.some.inj h).symm⟩
theorem txs_at {l : List Str} {i : Nat} {s : Str} (h : l[i]? = some s) : (txs l)[i]? = some (.str s) := by
  unfold txs
  rw [List.getElem?_map, h] <;> rfl
def fset {β : Type} (f : Str → β) (x : Str) (v : β) : Str → β := fun y => if y = x then v else f y
theorem fset_same {β : Type} (f : Str → β) (x : Str) (v : β) : fset f x v x = v := if_pos rfl
theorem fset_ne {β : Type} (f : Str → β) {x y : Str} (v : β) (h : y ≠ x) : fset f x v y = f y := if_neg h
def dm (P : List Str) (f : Str → V) : List (Key × V) := P.map fun g => (Sum.inr g, f g)
theorem dm_len (P : List Str) (f : Str → V) : (dm P f).length = P.length := List.length_map ..
theorem inr_inj {x y : Str} : ((Sum.inr x : Key) = Sum.inr y) ↔ x = y := ⟨fun h => Sum.inr.inj h, fun h => h ▸ rfl⟩
theorem valV_dm (f : Str → V) (x : Str) : ∀ P : List Str, valV (dm P f) (Sum.inr x : Key) = if x ∈ P then some (f x) else none
  | [] => rfl
  | y :: P => by
    have ih := valV_dm f x P
    show valV ((Sum.inr y, f y) :: dm P f) (Sum.inr x : Key) = _
    by_cases e : y = x
    · subst e
      rw [valV_pos rfl, if_pos List.mem_cons_self]
    · rw [valV_neg (fun z => e (inr_inj.mp z)), ih]
      by_cases c : x ∈ P
      · rw [if_pos c, if_pos (List.mem_cons_of_mem _ c)]
      · rw [if_neg c, if_neg (fun z => (List.mem_cons.mp z).elim (fun w => e w.symm) c)]
theorem dm_in {P : List Str} {f : Str → V} {x : Str} (h : x ∈ P) : valV (dm P f) (Sum.inr x : Key) = some (f x) := by rw [valV_dm, if_pos h]
theorem dm_out {P : List Str} {f : Str → V} {x : Str} (h : x ∉ P) : valV (dm P f) (Sum.inr x : Key) = none := by rw [valV_dm, if_neg h]
theorem dm_congr {f g : Str → V} : ∀ {P : List Str}, (∀ x, x ∈ P → f x = g x) → dm P f = dm P g := fun {P} h => List.map_congr_left fun x hx => by rw [h x hx]
theorem dm_append (P P' : List Str) (f : Str → V) : dm (P ++ P') f = dm P f ++ dm P' f := List.map_append ..
theorem put_new {P : List Str} {f : Str → V} {x : Str} (v : V) (h : x ∉ P) : putK (dm P f) (Sum.inr x : Key) v = dm (P ++ [x]) (fset f x v) := by
  rw [putK_new v (dm_out h), dm_append]
  have e1 : dm P f = dm P (fset f x v) := dm_congr fun y hy => (fset_ne f v fun (z : y = x) => h (z ▸ hy)).symm
  have e2 : dm [x] (fset f x v) = [((Sum.inr x : Key), v)] := by
    show [((Sum.inr x : Key), fset f x v x)] = _
    rw [fset_same]
  rw [← e1, e2]
theorem put_old {P : List Str} {f : Str → V} {x : Str} (v : V) (h : x ∈ P) : putK (dm P f) (Sum.inr x : Key) v = dm P (fset f x v) := by
  have a : ((dm P f).any fun kv => decide (kv.1 = (Sum.inr x : Key))) = true := by
    rw [valV_any, dm_in h] <;> rfl
  unfold putK
  rw [if_pos a]
  unfold dm
  rw [List.map_map]
  refine List.map_congr_left fun y hy => ?_
  show (if (Sum.inr y : Key) = Sum.inr x then ((Sum.inr y : Key), v) else (Sum.inr y, f y)) = (Sum.inr y, fset f x v y)
  by_cases e : y = x
  · subst e
    rw [if_pos rfl, fset_same]
  · rw [if_neg (fun z => e (inr_inj.mp z)), fset_ne f v e]
theorem not_mem_take {P : List Str} (hn : P.Nodup) {i : Nat} {g : Str} (h : P[i]? = some g) : g ∉ P.take i := fun hm => by
  obtain ⟨j, hj, e⟩ := List.mem_iff_getElem.mp hm
  have lj : j < i := by rw [List.length_take] at hj; omega
  have e2 : P[j]? = some g := by
    rw [List.getElem_take] at e
    rw [← e]
    exact List.getElem?_eq_getElem _
  obtain ⟨h1, q1⟩ := List.getElem?_eq_some_iff.mp h
  obtain ⟨h2, q2⟩ := List.getElem?_eq_some_iff.mp e2
  have := (List.getElem_inj hn).mp (q1.trans q2.symm)
  omega
theorem take_next {α : Type} {P : List α} {i : Nat} {g : α} (h : P[i]? = some g) : P.take (i + 1) = P.take i ++ [g] := by
  rw [List.take_add_one, h] <;> rfl
theorem put_next {P : List Str} {f : Str → V} (hn : P.Nodup) {i : Nat} {g : Str} (h : P[i]? = some g) (v : V) : putK (dm (P.take i) f) (Sum.inr g : Key) v = dm (P.take (i + 1)) (fset f g v) := by
  rw [put_new v (not_mem_take hn h), take_next h]
theorem get_dm {H : Hp} {d : Addr} {P : List Str} {f : Str → V} {x : Str} (r : Rd H d (.dK (dm P f))) (h : x ∈ P) : DGet H d (.str x) (some (f x)) := .inl ⟨_, Sum.inr x, r, rfl, (dm_in h).symm⟩
theorem ask_dm {H : Hp} {d : Addr} {P : List Str} {f : Str → V} (x : Str) (r : Rd H d (.dK (dm P f))) : DGet H d (.str x) (if x ∈ P then some (f x) else none) := .inl ⟨_, Sum.inr x, r, rfl, (valV_dm f x P).symm⟩
def Kept (l : List Addr) (H H' : Hp) : Prop := ∀ b o, b ∉ l → H b = some o → H' b = some o
theorem Kept.refl (l : List Addr) (H : Hp) : Kept l H H := fun _ _ _ e => e
theorem Kept.trans {l : List Addr} {H H1 H2 : Hp} (a : Kept l H H1) (b : Kept l H1 H2) : Kept l H H2 := fun c o n e => b c o n (a c o n e)
theorem Kept.mono {l l' : List Addr} {H H' : Hp} (a : Kept l H H') (h : ∀ b, b ∈ l → b ∈ l') : Kept l' H H' := fun c o n e => a c o (fun z => n (h c z)) e
theorem _root_.L2.Same.kept {H H' : Hp} (s : Same H H') (l : List Addr) : Kept l H H' := fun b o _ e => s b o e
theorem kept_upd {l : List Addr} {H : Hp} {a : Addr} {o : HO} (h : a ∈ l) : Kept l H (upd H a o) := fun b u n e => by
  rw [upd_ne (fun (z : b = a) => n (z ▸ h))]
  exact e
theorem same_new {H : Hp} {a : Addr} {o : HO} (h : H a = none) : Same H (upd H a o) := fun b u e => by
  rw [upd_ne (ne_of_none e h)]
  exact e
theorem Kept.rd {l : List Addr} {H H' : Hp} (k : Kept l H H') {a : Addr} {u : HO} (n : a ∉ l) (r : Rd H a u) : Rd H' a u := r.elim (fun e => .inl (k a u n e)) fun ⟨o, e⟩ => .inr ⟨o, k a _ n e⟩
theorem Kept.seq {l : List Addr} {H H' : Hp} (k : Kept l H H') {K : PySem.W.Frag} {a : Addr} {xs : List V} (n : a ∉ l) (h : SqL K H a xs) : SqL K H' a xs := by
  rcases h with (h | ⟨o, h⟩) | h
  · exact .inl (.inl (k _ _ n h))
  · exact .inl (.inr ⟨o, k _ _ n h⟩)
  · exact .inr h
theorem same_iff {H H' : Hp} : Same H H' ↔ Kept [] H H' := ⟨fun s b o _ e => s b o e, fun k b o e => k b o (by simp) e⟩
theorem _root_.L2.Same.rd {H H' : Hp} (s : Same H H') {a : Addr} {u : HO} (r : Rd H a u) : Rd H' a u := (same_iff.mp s).rd (by simp) r
def Rows (H : Hp) (d : Addr) (P : List Str) (R : Str → List Str) : Prop := ∃ ad : Str → Addr, Rd H d (.dK (dm P fun g => .ref (ad g))) ∧ ∀ g, g ∈ P → H (ad g) = some (.lst (txs (R g)))
def RowsU (H : Hp) (d : Addr) (P : List Str) (R : Str → List Str) : Prop := ∃ ad : Str → Addr, H d = some (.dK (dm P fun g => .ref (ad g))) ∧ ∀ g, g ∈ P → H (ad g) = some (.lst (txs (R g)))
section
variable {H H' : Hp} {d : Addr} {P : List Str} {R R' : Str → List Str}
theorem RowsU.rows (r : RowsU H d P R) : Rows H d P R := let ⟨ad, h, q⟩ := r; ⟨ad, .inl h, q⟩
theorem Rows.same (r : Rows H d P R) (s : Same H H') : Rows H' d P R := let ⟨ad, h, q⟩ := r; ⟨ad, s.rd h, fun g hg => s _ _ (q g hg)⟩
theorem RowsU.same (r : RowsU H d P R) (s : Same H H') : RowsU H' d P R := let ⟨ad, h, q⟩ := r; ⟨ad, s _ _ h, fun g hg => s _ _ (q g hg)⟩
theorem RowsU.congr (r : RowsU H d P R) (e : ∀ g, g ∈ P → R g = R' g) : RowsU H d P R' := let ⟨ad, h, q⟩ := r; ⟨ad, h, fun g hg => e g hg ▸ q g hg⟩
theorem Rows.kept {l : List Addr} (r : Rows H d P R) (k : Kept l H H') (n : d ∉ l) (hl : ∀ b, b ∈ l → ∃ kvs, H b = some (.dK kvs)) : Rows H' d P R := by
  obtain ⟨ad, h, q⟩ := r
  refine ⟨ad, k.rd n h, fun g hg => k _ _ (fun hm => ?_) (q g hg)⟩
  obtain ⟨kvs, e⟩ := hl _ hm
  rw [q g hg] at e
  cases e
theorem RowsU.lock (r : RowsU H d P R) (od : Obj) : ∃ ad : Str → Addr, H d = some (.dK (dm P fun g => .ref (ad g))) ∧ (∀ g, g ∈ P → H (ad g) = some (.lst (txs (R g)))) ∧ Rows (upd H d (.frz od (.dK (dm P fun g => .ref (ad g))))) d P R := by
  obtain ⟨ad, h, q⟩ := r
  refine ⟨ad, h, q, ad, .inr ⟨od, upd_same⟩, fun g hg => ?_⟩
  rw [upd_ne (ne_of (q g hg) h (by intro z; cases z))]
  exact q g hg
end
theorem unlock_same {H H' : Hp} {d : Addr} {u v : HO} (e : H d = some u) (s : Same (upd H d v) H') : Same H (upd H' d u) := fun b o eb => by
  by_cases c : b = d
  · subst c
    rw [upd_same]
    rw [e] at eb
    exact eb
  · rw [upd_ne c]
    exact s b o (by rw [upd_ne c]; exact eb)
def yes : Str → V := fun _ => .bl true
theorem fset_yes (t : Str) : fset yes t (V.bl true) = yes := by
  funext y
  show (if y = t then V.bl true else V.bl true) = V.bl true
  by_cases e : y = t
  · rw [if_pos e]
  · rw [if_neg e]
def hv (own : Str → Str) : Str → V := fun t => .str (own t)
theorem hv_fset (own : Str → Str) (t u : Str) : fset (hv own) t (V.str u) = hv (fset own t u) := by
  funext z
  show (if z = t then V.str u else V.str (own z)) = V.str (if z = t then u else own z)
  by_cases e : z = t
  · rw [if_pos e, if_pos e]
  · rw [if_neg e, if_neg e]
theorem nodup_snoc {l : List Str} {t : Str} (h : l.Nodup) (n : t ∉ l) : (l ++ [t]).Nodup :=
  List.nodup_append.mpr ⟨h, by simp, fun a ha b hb => by rw [List.mem_singleton.mp hb]; exact fun (e : a = t) => n (e ▸ ha)⟩
theorem mem_snoc {l : List Str} {t x : Str} : x ∈ l ++ [t] ↔ x = t ∨ x ∈ l := by rw [List.mem_append, List.mem_singleton]; exact Or.comm
theorem put_known {P : List Str} {f : Str → V} {x : Str} (h : x ∉ P) : putK (dm P f) (Sum.inr x : Key) (f x) = dm (P ++ [x]) f := by
  rw [put_new _ h]
  refine dm_congr fun y _ => ?_
  by_cases e : y = x
  · rw [e, fset_same]
  · rw [fset_ne _ _ e]
theorem fset_id {β : Type} (f : Str → β) (x : Str) : fset f x (f x) = f := by
  funext y
  by_cases e : y = x
  · rw [e, fset_same]
  · rw [fset_ne _ _ e]
theorem dm_at {P : List Str} {f : Str → V} {i : Nat} {k : Key} {v : V} (h : (dm P f)[i]? = some (k, v)) : ∃ g, P[i]? = some g ∧ k = Sum.inr g ∧ v = f g := by
  unfold dm at h
  rw [List.getElem?_map] at h
  cases e : P[i]? with
  | none => rw [e] at h; cases h
  | some g =>
    rw [e] at h
    have q := Option.some.inj h
    exact ⟨g, rfl, (congrArg Prod.fst q).symm, (congrArg Prod.snd q).symm⟩
theorem same_lock {H : Hp} {d : Addr} {u v : HO} (e : H d = some u) {b : Addr} {o : HO} (h : H b = some o) (n : b ≠ d) : upd H d v b = some o := by
  rw [upd_ne n]
  exact h
theorem lt24 {n : Nat} (h : n ≤ 24) : n < sizeLine := small1000 (by omega)
theorem _root_.L2.Same.put {H H1 : Hp} {D : Addr} {o : HO} (s : Same H H1) (n : H D = none) : Same H (upd H1 D o) := fun b u e => by
  rw [upd_ne (ne_of_none e n)]
  exact s b u e
theorem behind_lock {H H1 : Hp} {d D : Addr} {od : Obj} {u : HO} (hd : H d = some u) (nD : upd H d (.frz od u) D = none) (s : Same (upd H d (.frz od u)) H1) :
    H1 d = some (.frz od u) ∧ Same H (upd H1 d u) ∧ H D = none ∧ ∀ o, H1 D = some o → upd H1 d u D = some o := by
  have ne : D ≠ d := fun z => by rw [z, upd_same] at nD; cases nD
  refine ⟨s d _ upd_same, unlock_same hd s, ?_, fun o e => ?_⟩
  · rw [upd_ne ne] at nD
    exact nD
  · rw [upd_ne ne]
    exact e
theorem take_at {α : Type} {P : List α} {i : Nat} (h : i < P.length) : ∃ g, P[i]? = some g := ⟨P[i], List.getElem?_eq_getElem h⟩
theorem mem_at {α : Type} {P : List α} {i : Nat} {g : α} (h : P[i]? = some g) : g ∈ P := List.mem_of_getElem? h
theorem mem_last {l : List Str} {g z : Str} (h : l[l.length - 1]? = some g) (hz : z ∈ l) : z = g ∨ z ∈ l.dropLast := by
  have hl : l ≠ [] := fun e => by rw [e] at hz; cases hz
  have e1 : l.dropLast ++ [l.getLast hl] = l := List.dropLast_concat_getLast hl
  have e2 : l.getLast hl = g := by
    have q := List.getLast?_eq_getElem? (l := l)
    rw [h, List.getLast?_eq_some_getLast hl] at q
    exact Option.some.inj q
  rw [← e1, e2] at hz
  exact mem_snoc.mp hz
theorem of_dropLast {l : List Str} {z : Str} (h : z ∈ l.dropLast) : z ∈ l := (List.dropLast_sublist l).mem h
end G
set_option Elab.async false
set_option linter.all false
set_option maxRecDepth 100000
set_option maxHeartbeats 4000000
namespace G
open PySem PySem.Spec PyProof.Rows L2 GM
def hOf (hl : List Str) (own : Str → Str) : Str → Option Str := fun t => if t ∈ hl then some (own t) else none
theorem hOf_put {hl hl' : List Str} {own : Str → Str} {t u : Str} (h1 : ∀ x, x ∈ hl' ↔ x = t ∨ x ∈ hl) : hOf hl' (fset own t u) = hset (hOf hl own) t u := by
  funext x
  show (if x ∈ hl' then some (if x = t then u else own x) else none) = if x = t then some u else if x ∈ hl then some (own x) else none
  by_cases e : x = t
  · rw [if_pos ((h1 x).mpr (.inl e)), if_pos e, if_pos e]
  · rw [if_neg e, if_neg e]
    by_cases c : x ∈ hl
    · rw [if_pos c, if_pos ((h1 x).mpr (.inr c))]
    · rw [if_neg c, if_neg (fun z => ((h1 x).mp z).elim e c)]
def spSeek (K : PySem.W.Frag) (n : Nat) : Sp := fun vs H Q _ => ∃ (P : List Str) (R : Str → List Str) (dr : Addr) (u : Str) (dh ds : Addr) (hl S : List Str) (own : Str → Str), vs = [.ref dr, .str u, .ref dh, .ref ds] ∧
  Rows H dr P R ∧ H dh = some (.dK (dm hl (hv own))) ∧ H ds = some (.dK (dm S yes)) ∧ dr ≠ dh ∧ dr ≠ ds ∧ dh ≠ ds ∧
  WF P R ∧ P.length ≤ 24 ∧ u ∈ P ∧ hl.Nodup ∧ S.Nodup ∧ (∀ t, t ∈ hl → t ∈ P) ∧ (∀ t, t ∈ S → t ∈ P) ∧ HOk P R (hOf hl own) ∧ P.length < S.length + n ∧
  (∀ (H' : Hp) (hl' S' : List Str) (own' : Str → Str), Kept [dh, ds] H H' → H' dh = some (.dK (dm hl' (hv own'))) → H' ds = some (.dK (dm S' yes)) → hl'.Nodup → (∀ t, t ∈ hl' → t ∈ P) → Aug P R S u (hOf hl own) (hOf hl' own') → Q (.bl true) H') ∧
  (∀ (H' : Hp) (S' : List Str), Kept [ds] H H' → H' ds = some (.dK (dm S' yes)) → S'.Nodup → (∀ t, t ∈ S' → t ∈ P) → Dead R S S' u (hOf hl own) → Q (.bl false) H')
section
variable {P : Program} {w : World} {K : PySem.W.Frag} {mg : Str → Option Value} {base : Heap}
theorem seek_rec (T : Tx K mg) : ∀ n : Nat, C8.Cal P w K mg base (n + 1) "seek" (spSeek K n) []
  | 0 => by
    obtain ⟨fd, F, b⟩ := T.f_seek
    refine ⟨_, fd, _, [], F.ok (k := 0) sc_seek (fun vs H Q E h => ?_) (fun cdv A outer s H vs Q E hr h => ?_), T.g_seek, F.kp, b, .nil⟩
    · obtain ⟨_, _, _, _, _, _, _, _, _, rfl, _⟩ := h
      rfl
    · obtain ⟨P, R, dr, u, dh, ds, hl, S, own, rfl, hR, hh, hs, n1, n2, n3, wf, hP, hu, nh, nS, sh, sS, ok, hn, kT, kF⟩ := h
      have := len_le_of_sub nS sS
      omega
  | n + 1 => by
    have ih := seek_rec T n
    obtain ⟨fd, F, b⟩ := T.f_seek
    refine ⟨_, fd, _, [], F.ok (k := n + 1) sc_seek (fun vs H Q E h => ?_) (fun cdv A outer s H vs Q E hr h => ?_), T.g_seek, F.kp, b, .nil⟩
    · obtain ⟨_, _, _, _, _, _, _, _, _, rfl, _⟩ := h
      rfl
    · obtain ⟨P, R, dr, u, dh, ds, hl, S, own, rfl, hR, hh, hs, n1, n2, n3, wf, hP, hu, nh, nS, sh, sS, ok, hn, kT, kF⟩ := h
      have hu1 := hu_of hr
      refine ⟨_, pss_cons (ps_for PassesOwn.never rfl (pi_list (pe_dget hu1 (pv 0) (pv 1) (fun _ _ => rfl))) (pg_name (i := 4) sc_seek.nd rfl (.inl rfl))
        (pss_cons (ps_if (pt_cmp (pc_din hu1 (pv 4) (pv 3))) (pss_one ps_continue) pss_nil)
        (pss_cons (ps_dput hu1 (pv 3) (pv 4) pe_bl rfl)
        (pss_one (ps_if (PW.pt (pw_or (pt_cmp (pc_dnotin hu1 (pv 4) (pv 2))) (pw_or1 (pt_val (C8.pe_c ih hr (Nat.le_refl _) rfl (pa_cons (pv 0) (pa_cons (pe_dget hu1 (pv 2) (pv 4) (fun _ _ => rfl)) (pa_cons (pv 2) (pa_cons (pv 3) pa_nil)))))))))
          (pss_cons (ps_dput hu1 (pv 2) (pv 4) (pv 1) rfl) (pss_one (ps_ret pe_bl))) pss_nil)))))
        (pss_one (ps_ret pe_bl)), ?_⟩
      obtain ⟨ad, hr0, hL⟩ := hR
      refine ⟨_, rfl, _, rfl, dr, _, rfl, get_dm hr0 hu, _, rfl, ⟨_, SqL.of (hL u hu)⟩, ?_⟩
      have eY : ∀ t : Str, fset yes t (V.bl true) = yes := fset_yes
      refine for_list (K := K) (a := ad u) (xs := txs (R u)) (fun i σ H1 => ∃ (S1 : List Str) (v4 : Option V), σ = [some (.ref dr), some (.str u), some (.ref dh), some (.ref ds), v4] ∧ Kept [ds] H H1 ∧ H1 ds = some (.dK (dm S1 yes)) ∧ S1.Nodup ∧ (∀ t, t ∈ S1 → t ∈ P) ∧
          (∀ t, t ∈ S → t ∈ S1) ∧ (∀ t, t ∈ (R u).take i → t ∈ S1) ∧ ∀ t, t ∈ S1 → t ∉ S → ∃ g, hOf hl own t = some g ∧ ∀ y, y ∈ R g → y ∈ S1)
        ⟨S, none, rfl, Kept.refl _ _, hs, nS, sS, fun t ht => ht, fun t ht => by simp at ht, fun t h1 h2 => absurd h1 h2⟩ (fun i σ H1 _ => ?_) ?_ ?_
      · rintro ⟨S1, v4, rfl, k1, e1, _⟩
        exact k1.seq (by simp; exact ne_of (hL u hu) hs (by intro z; cases z)) (SqL.of (hL u hu))
      · rintro i y σ H1 hi ⟨S1, v4, rfl, k1, e1, nd1, sub1, le1, tk1, cl1⟩
        obtain ⟨t, ht, rfl⟩ := txs_get hi
        have htR : t ∈ R u := List.mem_of_getElem? ht
        have htP : t ∈ P := wf.cl u hu t htR
        have eh1 : H1 dh = some (.dK (dm hl (hv own))) := k1 dh _ (by simpa using n3) hh
        have tkn : ∀ S2 : List Str, (∀ z, z ∈ S1 → z ∈ S2) → t ∈ S2 → ∀ z, z ∈ (R u).take (i + 1) → z ∈ S2 := fun S2 hs2 h2 z hz => by
          rw [take_next ht] at hz
          rcases List.mem_append.mp hz with hz | hz
          · exact hs2 z (tk1 z hz)
          · rw [List.mem_singleton.mp hz]; exact h2
        refine ⟨_, rfl, _, rfl, ds, _, rfl, ask_dm t (.inl e1), _, rfl, ?_⟩
        by_cases c : t ∈ S1
        · rw [if_pos c]
          refine iteT ?_
          exact ⟨S1, _, rfl, k1, e1, nd1, sub1, le1, tkn S1 (fun _ z => z) c, cl1⟩
        · rw [if_neg c]
          refine iteF ?_
          refine ⟨_, rfl, _, rfl, ds, _, rfl, DPut.k (k := Sum.inr t) e1 (by rw [dm_len]; exact small1000 (by have := len_le_of_sub nd1 sub1; omega)), ?_⟩
          rw [put_new (V.bl true) c, eY]
          have nd2 : (S1 ++ [t]).Nodup := nodup_snoc nd1 c
          have sub2 : ∀ z, z ∈ S1 ++ [t] → z ∈ P := fun z hz => (List.mem_append.mp hz).elim (sub1 z) fun h => by rw [List.mem_singleton.mp h]; exact htP
          generalize eH2 : upd H1 ds (.dK (dm (S1 ++ [t]) yes)) = H2
          have e2 : H2 ds = some (.dK (dm (S1 ++ [t]) yes)) := by rw [← eH2, upd_same]
          have k2 : Kept [ds] H H2 := k1.trans (by rw [← eH2]; exact kept_upd (by simp))
          have eh2 : H2 dh = some (.dK (dm hl (hv own))) := k2 dh _ (by simpa using n3) hh
          have le2 : ∀ z, z ∈ S → z ∈ S1 ++ [t] := fun z hz => List.mem_append_left _ (le1 z hz)
          have up : ∀ z, z ∈ S1 → z ∈ S1 ++ [t] := fun z hz => List.mem_append_left _ hz
          have tin : t ∈ S1 ++ [t] := List.mem_append_right _ (by simp)
          have tnS : t ∉ S := fun z => c (le1 t z)
          refine ⟨_, rfl, _, rfl, dh, _, rfl, ask_dm t (.inl eh2), _, rfl, ?_⟩
          by_cases d : t ∈ hl
          · rw [if_pos d]
            refine iteF ?_
            have eo : hOf hl own t = some (own t) := if_pos d
            have hR2 : Rows H2 dr P R := Rows.kept ⟨ad, hr0, hL⟩ k2 (by simpa using n2) fun b hb => by rw [List.mem_singleton.mp hb]; exact ⟨_, hs⟩
            refine ⟨_, rfl, _, rfl, _, rfl, dh, _, rfl, get_dm (.inl eh2) d, _, rfl, _, rfl, P, R, dr, own t, dh, ds, hl, S1 ++ [t], own, rfl, hR2, eh2, e2, n1, n2, n3, wf, hP, (ok t _ eo).1, nh, nd2, sh, sub2, ok, ?_, ?_, ?_⟩
            · have l1 := len_le_of_sub nS le1
              rw [List.length_append, List.length_singleton]
              omega
            · intro H3 hl3 S3 own3 k3 eh3 e3 nd3 sub3 aug
              refine ⟨true, rfl, iteT ?_⟩
              refine ⟨_, rfl, _, rfl, _, rfl, dh, _, rfl, DPut.k (k := Sum.inr t) eh3 (by rw [dm_len]; exact small1000 (by have := len_le_of_sub nd3 sub3; omega)), ?_⟩
              have d3 : t ∈ hl3 := by
                have q := aug.same t tin
                rw [eo] at q
                apply Classical.byContradiction
                intro z
                have q2 : hOf hl3 own3 t = none := if_neg z
                rw [q2] at q
                cases q
              have ev := hv_fset own3 t u
              show Q (V.bl true) (upd H3 dh (.dK (putK (dm hl3 (hv own3)) (Sum.inr t) (V.str u))))
              rw [put_old _ d3, ev]
              refine kT _ hl3 S3 (fset own3 t u) ?_ upd_same (by rw [upd_ne n3.symm]; exact e3) nd3 sub3 ?_
              · exact ((k2.mono (by simp)).trans k3).trans (kept_upd (by simp))
              · rw [hOf_put (t := t) (u := u) (own := own3) (hl := hl3) fun x => ⟨.inr, fun z => z.elim (fun e => e ▸ d3) id⟩]
                exact Aug.moved wf hu htR tnS le2 tin eo aug
            · intro H3 S3 k3 e3 nd3 sub3 dead
              refine ⟨false, rfl, iteF ?_⟩
              refine ⟨S3, _, rfl, k2.trans k3, e3, nd3, sub3, fun z hz => dead.sub z (le2 z hz), tkn S3 (fun z hz => dead.sub z (up z hz)) (dead.sub t tin), fun z hz hn => ?_⟩
              by_cases c1 : z ∈ S1 ++ [t]
              · rcases List.mem_append.mp c1 with c2 | c2
                · obtain ⟨g, q1, q2⟩ := cl1 z c2 hn
                  exact ⟨g, q1, fun y hy => dead.sub y (up y (q2 y hy))⟩
                · rw [List.mem_singleton.mp c2]
                  exact ⟨own t, eo, dead.row⟩
              · exact dead.clo z hz c1
          · rw [if_neg d]
            refine iteT ?_
            refine ⟨_, rfl, _, rfl, _, rfl, dh, _, rfl, DPut.k (k := Sum.inr t) eh2 (by rw [dm_len]; exact small1000 (by have := len_le_of_sub nh sh; omega)), ?_⟩
            have ev := hv_fset own t u
            show Q (V.bl true) (upd H2 dh (.dK (putK (dm hl (hv own)) (Sum.inr t) (V.str u))))
            rw [put_new _ d, ev]
            refine kT _ (hl ++ [t]) (S1 ++ [t]) (fset own t u) ?_ upd_same (by rw [upd_ne n3.symm]; exact e2) ?_ ?_ ?_
            · exact (k2.mono (by simp)).trans (kept_upd (by simp))
            · exact nodup_snoc nh d
            · exact fun z hz => (List.mem_append.mp hz).elim (sh z) fun h => by rw [List.mem_singleton.mp h]; exact htP
            · rw [hOf_put (t := t) (u := u) (own := own) (hl := hl) fun x => mem_snoc]
              exact Aug.free wf ok hu htR tnS (if_neg d)
      · rintro σ H1 ⟨S1, v4, rfl, k1, e1, nd1, sub1, le1, tk1, cl1⟩
        refine kF H1 S1 k1 e1 nd1 sub1 ⟨le1, fun t ht => tk1 t ?_, cl1⟩
        rw [txs_len, List.take_length]
        exact ht
end
end G
set_option Elab.async false
set_option linter.all false
set_option maxRecDepth 100000
set_option maxHeartbeats 4000000
namespace G
open PySem PySem.Spec PyProof.Rows L2 GM
def spOwners : Sp := fun vs H Q _ => ∃ (d : Addr) (P : List Str) (M inv : Str → Str), vs = [.ref d] ∧ H d = some (.dK (dm P (hv M))) ∧ P.Nodup ∧ P.length ≤ 24 ∧ (∀ g, g ∈ P → inv (M g) = g) ∧
  ∀ (H' : Hp) (p : Addr), Same H H' → H p = none → H' p = some (.dK (dm (P.map M) (hv inv))) → Q (.ref p) H'
section
variable {P : Program} {w : World} {K : PySem.W.Frag} {mg : Str → Option Value} {base : Heap}
theorem c_owners_of (T : Tx K mg) : C8.Cal P w K mg base 1 "owners_of" spOwners [] := by
  obtain ⟨fd, F, b⟩ := T.f_owners_of
  refine ⟨_, fd, _, [], F.ok (k := 0) sc_owners_of (fun vs H Q E h => ?_) (fun cdv A outer s H vs Q E hr h => ?_), T.g_owners_of, F.kp, b, .nil⟩
  · obtain ⟨_, _, _, _, rfl, _⟩ := h
    rfl
  · obtain ⟨d, P, M, inv, rfl, hd, nd, hl, hinv, k⟩ := h
    have hu := hu_of hr
    refine ⟨_, pss_one (ps_ret (pe_lock (pe_dg false (Nat.lt_of_succ_lt hu) rfl sc_owners_of.nd (pi_keys (pv 0)) (blkOk_by (own := [("giver", 1)]) (N := N_owners_of) (sc := defScope s_owners_of) (by decide +kernel))
      (fun _ _ _ _ _ => pg_name (i := 1) sc_owners_of.nd rfl (Or.inl rfl)) (fun _ _ _ _ _ => pts_nil) (fun _ _ _ _ _ => pe_dget hu (pv 0) (pv 1) (fun _ _ => rfl)) (fun _ _ _ _ _ => pv 1)))), ?_⟩
    refine ⟨d, _, hd, trivial, fun od => ⟨_, rfl, d, od, rfl, .inl ⟨_, upd_same, fun D nD => ?_⟩⟩⟩
    refine dg_turns (t := false) P.length (fun i H1 => Same (upd H d (.frz od (.dK (dm P (hv M))))) H1 ∧ H1 D = some (.dK (dm ((P.take i).map M) (hv inv)))) ⟨same_new nD, upd_same⟩ (fun i H1 hi p => ⟨p.1 d _ upd_same, by rw [dm_len]; exact hi⟩) (fun H1 p => ⟨p.1 d _ upd_same, by rw [dm_len]; exact Nat.le_refl _⟩) ?_ ?_
    · rintro i H1 hi ⟨s1, e1⟩ x H2 ⟨rfl, kk, v, hk, rfl⟩
      obtain ⟨g, hg, rfl, rfl⟩ := dm_at hk
      have gP := mem_at hg
      refine ⟨rfl, ?_⟩
      refine ⟨_, rfl, _, rfl, d, _, rfl, get_dm (.inr ⟨od, s1 d _ upd_same⟩) gP, _, rfl, _, DPut.k (k := Sum.inr (M g)) e1 (by rw [dm_len, List.length_map, List.length_take]; exact lt24 (by omega)), s1.put nD, ?_⟩
      rw [upd_same]
      have em : (P.take (i + 1)).map M = (P.take i).map M ++ [M g] := by rw [take_next hg, List.map_append] <;> rfl
      have ef : kV (Sum.inr g) = hv inv (M g) := by show V.str g = V.str (inv (M g)); rw [hinv g gP]
      rw [em, ef, put_known]
      intro hm
      obtain ⟨g', h1, h2⟩ := List.mem_map.mp hm
      have h3 : g' = g := by rw [← hinv g' (List.mem_of_mem_take h1), ← hinv g gP, h2]
      exact not_mem_take nd hg (h3 ▸ h1)
    · rintro H1 ⟨s1, e1⟩
      obtain ⟨q1, q2, q3, q4⟩ := behind_lock hd nD s1
      refine ⟨q1, k _ D q2 q3 (q4 _ ?_)⟩
      rw [e1, List.take_length]
end
end G
set_option Elab.async false
set_option linter.all false
set_option maxRecDepth 100000
set_option maxHeartbeats 4000000
namespace G
open PySem PySem.Spec PyProof.Rows L2 GM
structure Back (P : List Str) (M inv : Str → Str) (L : List Str) : Prop where
  key : ∀ t, t ∈ P → t ∈ L
  own : ∀ t, t ∈ P → inv t ∈ P ∧ M (inv t) = t
  back : ∀ g, g ∈ P → inv (M g) = g
def spReached : Sp := fun vs H Q _ => ∃ (dr dw : Addr) (x : Str) (P : List Str) (R : Str → List Str) (M inv : Str → Str) (L : List Str), vs = [.ref dr, .ref dw, .str x] ∧ Rows H dr P R ∧ Rd H dw (.dK (dm L (hv inv))) ∧ WF P R ∧ P.length ≤ 24 ∧ x ∈ P ∧ Back P M inv L ∧
  ∀ (H' : Hp) (p : Addr) (F : List Str), Same H H' → H p = none → H' p = some (.dK (dm F yes)) → (∀ g, g ∈ F ↔ Reach P R M x g) → Q (.ref p) H'
section
variable {P : Program} {w : World} {K : PySem.W.Frag} {mg : Str → Option Value} {base : Heap}
theorem c_reached (T : Tx K mg) : C8.Cal P w K mg base 1 "reached" spReached [] := by
  obtain ⟨fd, F, b⟩ := T.f_reached
  refine ⟨_, fd, _, [], F.ok (k := 0) sc_reached (fun vs H Q E h => ?_) (fun cdv A outer s H vs Q E hr h => ?_), T.g_reached, F.kp, b, .nil⟩
  · obtain ⟨_, _, _, _, _, _, _, _, rfl, _⟩ := h
    rfl
  · obtain ⟨dr, dw, x, P, R, M, inv, L, rfl, hR, hB, wf, hl, hx, bk, k⟩ := h
    have hu := hu_of hr
    refine ⟨_, pss_cons (ps_set (i := 3) sc_reached.nd rfl (.inl rfl) (pe_disp (pps_cons (pv 2) pe_bl pps_nil) (by rfl) (by rfl) (fun z => by cases z) (by decide)))
      (pss_cons (ps_set (i := 4) sc_reached.nd rfl (.inl rfl) (pe_lst (pa_cons (pv 2) pa_nil)))
      (pss_cons (ps_while PassesOwn.never (pt_truth (pv 4) (by intro _; rfl))
        (pss_cons (ps_set (i := 5) sc_reached.nd rfl (.inl rfl) (pe_bm0 PySem.F.plainAttrs_list PySem.F.slot_list_pop PySem.F.type_list_pop mt_pop (pv 4)))
        (pss_one (ps_for PassesOwn.never rfl (pi_list (pe_dget hu (pv 0) (pv 5) (fun _ _ => rfl))) (pg_name (i := 6) sc_reached.nd rfl (.inl rfl))
          (pss_cons (ps_set (i := 7) sc_reached.nd rfl (.inl rfl) (pe_dget hu (pv 1) (pv 6) (fun _ _ => rfl)))
          (pss_one (ps_if (pt_cmp (pc_dnotin hu (pv 7) (pv 3)))
            (pss_cons (ps_dput hu (pv 3) (pv 7) pe_bl rfl)
            (pss_one (ps_expr (pe_bm PySem.F.plainAttrs_list PySem.F.slot_list_append PySem.F.type_list_append mt_append (pv 4) (pa_cons (pv 7) pa_nil))))) pss_nil)))))))
      (pss_one (ps_ret (pv 3))))), ?_⟩
    intro df nf
    refine ⟨_, rfl, upd_same, [(Sum.inr x, V.bl true)], rfl, by simp, ?_⟩
    refine ⟨_, rfl, (by decide : 1 ≤ sizeLine), fun dq nq => ?_⟩
    obtain ⟨ad, hr0, hL⟩ := id hR
    have e0 : mergeK ([] : List (Key × V)) [(Sum.inr x, V.bl true)] = dm [x] yes := rfl
    rw [e0] at nq ⊢
    have n1 : dq ≠ df := fun z => by rw [z, upd_same] at nq; cases nq
    have s0 : Same H (upd (upd (upd H df (.dK [])) df (.dK (dm [x] yes))) dq (.lst [V.str x])) := ((same_new nf).put nf).trans (same_new nq)
    have e1 : upd (upd (upd H df (.dK [])) df (.dK (dm [x] yes))) dq (.lst [V.str x]) df = some (.dK (dm [x] yes)) := by rw [upd_ne n1.symm, upd_same]
    have e2 : upd (upd (upd H df (.dK [])) df (.dK (dm [x] yes))) dq (.lst [V.str x]) dq = some (.lst (txs [x])) := upd_same
    have nq0 : H dq = none := by
      rw [upd_ne n1, upd_ne n1] at nq
      exact nq
    generalize upd (upd (upd H df (.dK [])) df (.dK (dm [x] yes))) dq (.lst [V.str x]) = H0 at s0 e1 e2 ⊢
    have Fin : ∀ {S : List Str}, S.Nodup → (∀ z, z ∈ S → z ∈ P) → S.length ≤ P.length := fun a c => len_le_of_sub a c
    refine ⟨fun m σ H1 => ∃ (S Wt : List Str) (v5 v6 v7 : Option V), σ = [some (.ref dr), some (.ref dw), some (.str x), some (.ref df), some (.ref dq), v5, v6, v7] ∧ Same H H1 ∧ H1 df = some (.dK (dm S yes)) ∧ H1 dq = some (.lst (txs Wt)) ∧ S.Nodup ∧ Wt.Nodup ∧ (∀ z, z ∈ S → z ∈ P) ∧
        (∀ z, z ∈ S → Reach P R M x z) ∧ x ∈ S ∧ (∀ z, z ∈ Wt → z ∈ S) ∧ (∀ z, z ∈ S → z ∉ Wt → ∀ t, t ∈ R z → inv t ∈ S) ∧ 2 * P.length + Wt.length ≤ m + 2 * S.length,
      ⟨2 * P.length + 1, [x], [x], none, none, none, rfl, s0, e1, e2, by simp, by simp, fun z hz => by rw [List.mem_singleton.mp hz]; exact hx, fun z hz => by rw [List.mem_singleton.mp hz]; exact .here, by simp, fun z hz => hz, fun z h1 h2 => absurd h1 h2, by simp⟩, ?_⟩
    rintro m σ H1 ⟨S, Wt, v5, v6, v7, rfl, s1, f1, q1, nS, nW, sS, rS, xS, wS, cS, hm⟩
    refine ⟨_, rfl, _, .inl ⟨_, SqL.of q1, rfl⟩, ?_⟩
    by_cases hW : Wt = []
    · -- the end
      subst hW
      refine iteF ?_
      refine ⟨_, rfl, k H1 df S s1 nf f1 fun g => ⟨rS g, fun r => ?_⟩⟩
      induction r with
      | here => exact xS
      | on h hz e ih =>
        rename_i y z
        have e2 := cS y ih (by simp) _ e
        rw [bk.back z hz] at e2
        exact e2
    · have hne : (txs Wt).isEmpty = false := by
        cases Wt with
        | nil => exact absurd rfl hW
        | cons a r => rfl
      rw [hne]
      refine iteT ?_
      obtain ⟨g, hg⟩ : ∃ g, Wt[Wt.length - 1]? = some g := take_at (by have := List.length_pos_iff.mpr hW; omega)
      have hgW : g ∈ Wt := mem_at hg
      have hgS := wS g hgW
      have hgP := sS g hgS
      refine ⟨fun σ' H' => ∃ m', m' < m ∧ ∃ (S Wt : List Str) (v5 v6 v7 : Option V), σ' = [some (.ref dr), some (.ref dw), some (.str x), some (.ref df), some (.ref dq), v5, v6, v7] ∧ Same H H' ∧ H' df = some (.dK (dm S yes)) ∧ H' dq = some (.lst (txs Wt)) ∧ S.Nodup ∧ Wt.Nodup ∧ (∀ z, z ∈ S → z ∈ P) ∧
        (∀ z, z ∈ S → Reach P R M x z) ∧ x ∈ S ∧ (∀ z, z ∈ Wt → z ∈ S) ∧ (∀ z, z ∈ S → z ∉ Wt → ∀ t, t ∈ R z → inv t ∈ S) ∧ 2 * P.length + Wt.length ≤ m' + 2 * S.length, fun σ' H' z => z, ?_⟩
      refine ⟨_, rfl, .inl ⟨rfl, _, SqL.of q1⟩, dq, txs Wt, V.str g, rfl, rfl, q1, ?_, ?_⟩
      · rw [txs_len]
        exact txs_at hg
      have ed : (txs Wt).dropLast = txs Wt.dropLast := by unfold txs; rw [List.map_dropLast]
      rw [ed]
      have s2 : Same H (upd H1 dq (.lst (txs Wt.dropLast))) := s1.put nq0
      have f2 : upd H1 dq (.lst (txs Wt.dropLast)) df = some (.dK (dm S yes)) := by rw [upd_ne n1.symm]; exact f1
      have q2 : upd H1 dq (.lst (txs Wt.dropLast)) dq = some (.lst (txs Wt.dropLast)) := upd_same
      generalize upd H1 dq (.lst (txs Wt.dropLast)) = H2 at s2 f2 q2 ⊢
      refine ⟨_, rfl, _, rfl, dr, _, rfl, get_dm (s2.rd hr0) hgP, _, rfl, ⟨_, SqL.of (s2 _ _ (hL g hgP))⟩, ?_⟩
      refine for_list (K := K) (a := ad g) (xs := txs (R g)) (fun i σ' H' => ∃ (S Wt : List Str) (v6 v7 : Option V), σ' = [some (.ref dr), some (.ref dw), some (.str x), some (.ref df), some (.ref dq), some (.str g), v6, v7] ∧ Same H H' ∧ H' df = some (.dK (dm S yes)) ∧ H' dq = some (.lst (txs Wt)) ∧ S.Nodup ∧ Wt.Nodup ∧ (∀ z, z ∈ S → z ∈ P) ∧
          (∀ z, z ∈ S → Reach P R M x z) ∧ x ∈ S ∧ g ∈ S ∧ (∀ z, z ∈ Wt → z ∈ S) ∧ (∀ z, z ∈ S → z ∉ Wt → z ≠ g → ∀ t, t ∈ R z → inv t ∈ S) ∧ (∀ t, t ∈ (R g).take i → inv t ∈ S) ∧ 2 * P.length + Wt.length + 1 ≤ m + 2 * S.length)
        ⟨S, Wt.dropLast, v6, v7, rfl, s2, f2, q2, nS, nW.sublist (List.dropLast_sublist Wt), sS, rS, xS, hgS, fun z hz => wS z (of_dropLast hz), fun z h1 h2 h3 => cS z h1 fun h4 => ?_, fun t ht => by simp at ht, ?_⟩ (fun i σ' H' _ z => ?_) ?_ ?_
      · exact (mem_last hg h4).elim h3 h2
      · have := List.length_pos_iff.mpr hW
        rw [List.length_dropLast]
        omega
      · obtain ⟨_, _, _, _, _, s3, _⟩ := z
        exact s3.seq (SqL.of (hL g hgP))
      · rintro i y σ' H' hi ⟨S, Wt, v6, v7, rfl, s3, f3, q3, nS, nW, sS, rS, xS, gS, wS, cS, tS, hm⟩
        obtain ⟨t, ht, rfl⟩ := txs_get hi
        have htR := mem_at ht
        have htP := wf.cl g hgP t htR
        obtain ⟨o1, o2⟩ := bk.own t htP
        have step : Reach P R M x (inv t) := (rS g gS).on o1 (by rw [o2]; exact htR)
        refine ⟨_, rfl, _, rfl, dw, _, rfl, get_dm (s3.rd hB) (bk.key t htP), ?_⟩
        refine ⟨_, rfl, _, rfl, df, _, rfl, ask_dm (inv t) (.inl f3), _, rfl, ?_⟩
        have tk : ∀ S' : List Str, (∀ z, z ∈ S → z ∈ S') → inv t ∈ S' → ∀ u, u ∈ (R g).take (i + 1) → inv u ∈ S' := fun S' h1 h2 u hu' => by
          rw [take_next ht] at hu'
          rcases List.mem_append.mp hu' with z | z
          · exact h1 _ (tS u z)
          · rw [List.mem_singleton.mp z]; exact h2
        by_cases c : inv t ∈ S
        · rw [if_pos c]
          refine iteF ?_
          exact ⟨S, Wt, _, _, rfl, s3, f3, q3, nS, nW, sS, rS, xS, gS, wS, cS, tk S (fun _ z => z) c, hm⟩
        · rw [if_neg c]
          refine iteT ?_
          have nS2 := nodup_snoc nS c
          have sS2 : ∀ z, z ∈ S ++ [inv t] → z ∈ P := fun z hz => (mem_snoc.mp hz).elim (fun e => e ▸ o1) (sS z)
          have lS2 := Fin nS2 sS2
          rw [List.length_append, List.length_singleton] at lS2
          refine ⟨_, rfl, _, rfl, df, _, rfl, DPut.k (k := Sum.inr (inv t)) f3 (by rw [dm_len]; exact lt24 (by omega)), ?_⟩
          rw [put_new _ c, fset_yes]
          have q4 : upd H' df (.dK (dm (S ++ [inv t]) yes)) dq = some (.lst (txs Wt)) := by rw [upd_ne n1]; exact q3
          refine ⟨_, rfl, .inl ⟨rfl, _, SqL.of q4⟩, _, rfl, dq, _, _, rfl, rfl, q4, ?_, ?_⟩
          · rw [txs_len]
            have := Fin nW fun z hz => sS z (wS z hz)
            exact lt24 (by omega)
          refine ⟨S ++ [inv t], Wt ++ [inv t], _, _, rfl, (s3.put nf).put nq0, by rw [upd_ne n1.symm, upd_same], by rw [upd_same]; unfold txs; rw [List.map_append] <;> rfl, nS2, nodup_snoc nW (fun z => c (wS _ z)), sS2, fun z hz => ?_, mem_snoc.mpr (.inr xS), mem_snoc.mpr (.inr gS), fun z hz => ?_, fun z h1 h2 h3 u hu' => ?_, tk _ (fun z hz => mem_snoc.mpr (.inr hz)) (mem_snoc.mpr (.inl rfl)), ?_⟩
          · exact (mem_snoc.mp hz).elim (fun e => e ▸ step) (rS z)
          · exact mem_snoc.mpr ((mem_snoc.mp hz).imp id (wS z))
          · rcases mem_snoc.mp h1 with e | e
            · exact absurd (mem_snoc.mpr (.inl e)) h2
            · exact mem_snoc.mpr (.inr (cS z e (fun w => h2 (mem_snoc.mpr (.inr w))) h3 u hu'))
          · rw [List.length_append, List.length_append]
            show 2 * P.length + (Wt.length + 1) + 1 ≤ m + 2 * (S.length + 1)
            omega
      · rintro σ' H' ⟨S, Wt, v6, v7, rfl, s3, f3, q3, nS, nW, sS, rS, xS, gS, wS, cS, tS, hm⟩
        rw [txs_len, List.take_length] at tS
        have lS := Fin nS sS
        refine ⟨m - 1, by omega, S, Wt, _, _, _, rfl, s3, f3, q3, nS, nW, sS, rS, xS, wS, fun z h1 h2 t ht => ?_, by omega⟩
        by_cases e : z = g
        · rw [e] at ht
          exact tS t ht
        · exact cS z h1 h2 e t ht
end
end G
set_option Elab.async false
set_option linter.all false
set_option maxRecDepth 100000
set_option maxHeartbeats 4000000
namespace G
open PySem PySem.Spec PyProof.Rows L2 GM
def spPaired : Sp := fun vs H Q _ => ∃ (d : Addr) (P : List Str) (R : Str → List Str), vs = [.ref d] ∧ RowsU H d P R ∧ WF P R ∧ P.length ≤ 24 ∧
  (∀ (M : Str → Str) (H' : Hp) (p : Addr), PM P R M → Same H H' → H p = none → H' p = some (.dK (dm P (hv M))) → Q (.ref p) H') ∧
  ((¬ ∃ M, PM P R M) → ∀ H' : Hp, Same H H' → Q .non H')
section
variable {P : Program} {w : World} {K : PySem.W.Frag} {mg : Str → Option Value} {base : Heap}
theorem cnt_zero {P : List Str} {R : Str → List Str} {h : Str → Option Str} (k : GM.HOk P R h) {g : Str} (n : g ∉ P) : cnt P h g = 0 := by
  apply Classical.byContradiction
  intro z
  obtain ⟨t, _, q⟩ := List.countP_pos_iff.mp (Nat.pos_of_ne_zero z)
  exact n (k t g (of_decide_eq_true q)).1
theorem c_paired (T : Tx K mg) : C8.Cal P w K mg base 27 "paired" spPaired [] := by
  have cS := seek_rec (P := P) (w := w) (base := base) T 25
  obtain ⟨fd, F, b⟩ := T.f_paired
  refine ⟨_, fd, _, [], F.ok (k := 26) sc_paired (fun vs H Q E h => ?_) (fun cdv A outer s H vs Q E hr h => ?_), T.g_paired, F.kp, b, .nil⟩
  · obtain ⟨_, _, _, rfl, _⟩ := h
    rfl
  · obtain ⟨d, P, R, rfl, hR, wf, hl, kY, kN⟩ := h
    have hu := hu_of hr
    have hu0 := Nat.lt_of_succ_lt hu
    refine ⟨_, pss_cons (ps_set (i := 1) sc_paired.nd rfl (.inr rfl) pe_dnewK)
      (pss_cons (ps_lock (ps_for PassesOwn.never rfl (pi_keys (pv 0)) (pg_name (i := 2) sc_paired.nd rfl (.inl rfl))
        (pss_one (ps_if (pt_not (pt_val (C8.pe_c cS hr (Nat.le_refl _) rfl (pa_cons (pv 0) (pa_cons (pv 2) (pa_cons (pv 1) (pa_cons pe_dnewK pa_nil))))))) (pss_one (ps_ret pe_non)) pss_nil))))
      (pss_cons (ps_set (i := 3) sc_paired.nd rfl (.inr rfl) (pe_lock (pe_dg false hu0 rfl sc_paired.nd (pi_keys (pv 1)) (blkOk_by (own := [("taker", 4)]) (N := N_paired) (sc := defScope s_paired) (by decide +kernel))
        (fun _ _ _ _ _ => pg_name (i := 4) sc_paired.nd rfl (Or.inl rfl)) (fun _ _ _ _ _ => pts_nil) (fun _ _ _ _ _ => pe_dget hu (pv 1) (pv 4) (fun _ _ => rfl)) (fun _ _ _ _ _ => pv 4))))
      (pss_one (ps_ret (pe_lock (pe_dg false hu0 rfl sc_paired.nd (pi_keys (pv 0)) (blkOk_by (own := [("giver", 2)]) (N := N_paired) (sc := defScope s_paired) (by decide +kernel))
        (fun _ _ _ _ _ => pg_name (i := 2) sc_paired.nd rfl (Or.inl rfl)) (fun _ _ _ _ _ => pts_nil) (fun _ _ _ _ _ => pv 2) (fun _ _ _ _ _ => pe_dget hu (pv 3) (pv 2) (fun _ _ => rfl)))))))), ?_⟩
    intro dh nh
    obtain ⟨ad, hd, hA⟩ := id hR
    have ndh : dh ≠ d := (ne_of_none hd nh).symm
    have hd1 : upd H dh (.dK []) d = some (.dK (dm P fun g => .ref (ad g))) := by rw [upd_ne ndh.symm]; exact hd
    refine ⟨d, _, hd1, trivial, fun od => ?_⟩
    refine ⟨_, rfl, d, od, rfl, .inl ⟨_, upd_same, ?_⟩⟩
    have nhL : ∀ {o : HO}, upd H d o dh = none := by intro o; rw [upd_ne ndh]; exact nh
    have sL : Same (upd H d (.frz od (.dK (dm P fun g => .ref (ad g))))) (upd (upd H dh (.dK [])) d (.frz od (.dK (dm P fun g => .ref (ad g))))) := fun b o e => by
      by_cases c : b = d
      · rw [c, upd_same] at e ⊢
        exact e
      · rw [upd_ne c] at e ⊢
        rw [upd_ne (ne_of_none e nh)]
        exact e
    have RL : Rows (upd H d (.frz od (.dK (dm P fun g => .ref (ad g))))) d P R := ⟨ad, .inr ⟨od, upd_same⟩, fun g hg => by rw [upd_ne (ne_of (hA g hg) hd (by intro z; cases z))]; exact hA g hg⟩
    refine for_turns P.length (fun i σ H1 => ∃ (L : List Str) (own : Str → Str) (v2 : Option V), σ = [some (.ref d), some (.ref dh), v2, none, none] ∧ Same (upd H d (.frz od (.dK (dm P fun g => .ref (ad g))))) H1 ∧ H1 dh = some (.dK (dm L (hv own))) ∧ L.Nodup ∧ (∀ t, t ∈ L → t ∈ P) ∧
        GM.HOk P R (hOf L own) ∧ ∀ g, g ∈ P → cnt P (hOf L own) g = if g ∈ P.take i then 1 else 0)
      ⟨[], fun x => x, none, rfl, sL, by rw [upd_ne ndh, upd_same]; rfl, List.nodup_nil, fun t ht => (by cases ht), fun t g e => (by simp [hOf] at e), fun g _ => ?_⟩
      (fun i σ H1 hi p => ?_) (fun σ H1 p => ?_) ?_ ?_
    · rw [if_neg (by simp)]
      exact List.countP_eq_zero.mpr fun t _ => by simp [hOf]
    · obtain ⟨_, _, _, _, s1, _⟩ := p
      exact ⟨s1 _ _ upd_same, by rw [dm_len]; exact hi⟩
    · obtain ⟨_, _, _, _, s1, _⟩ := p
      exact ⟨s1 _ _ upd_same, by rw [dm_len]; exact Nat.le_refl _⟩
    · rintro i σ H1 hi ⟨L, own, v2, rfl, s1, e1, nL, sub, ok, hc⟩ x H2 ⟨rfl, kk, v, hk, rfl⟩
      obtain ⟨g, hg, rfl, rfl⟩ := dm_at hk
      have gP := mem_at hg
      have gn := not_mem_take wf.nd hg
      have c0 : cnt P (hOf L own) g = 0 := by rw [hc g gP, if_neg gn]
      have c1 : ∀ z, cnt P (hOf L own) z ≤ 1 := fun z => by
        by_cases zP : z ∈ P
        · rw [hc z zP]
          by_cases c : z ∈ P.take i
          · rw [if_pos c]; exact Nat.le_refl _
          · rw [if_neg c]; exact Nat.zero_le _
        · rw [cnt_zero ok zP]; exact Nat.zero_le _
      refine ⟨_, rfl, _, rfl, _, rfl, fun ds ns => ?_⟩
      have n1 : d ≠ ds := ne_of_none (s1 d _ upd_same) ns
      have n2 : dh ≠ ds := ne_of_none e1 ns
      have s2 := same_new (o := .dK (dm [] yes)) ns
      refine ⟨P, R, d, g, dh, ds, L, [], own, rfl, (RL.same s1).same s2, s2 _ _ e1, upd_same, ndh.symm, n1, n2, wf, hl, gP, nL, List.nodup_nil, sub, fun t ht => (by cases ht), ok, by rw [List.length_nil]; omega, ?_, ?_⟩
      · intro H3 L3 S3 own3 k3 e3 _ nd3 sub3 aug
        refine ⟨true, rfl, iteF ?_⟩
        refine ⟨L3, own3, _, rfl, fun b o e => ?_, e3, nd3, sub3, aug.ok, fun z zP => ?_⟩
        · refine k3 b o ?_ (s2 b o (s1 b o e))
          intro hm
          rcases List.mem_cons.mp hm with q | q
          · rw [q, nhL] at e; cases e
          · have q := List.mem_singleton.mp q
            rw [q] at e
            rw [s1 _ _ e] at ns
            cases ns
        · rw [aug.cnt z, hc z zP, take_next hg]
          by_cases c : z = g
          · rw [if_pos c, if_neg (c ▸ gn), if_pos (mem_snoc.mpr (.inl c))]
          · rw [if_neg c]
            by_cases c2 : z ∈ P.take i
            · rw [if_pos c2, if_pos (mem_snoc.mpr (.inr c2))]
            · rw [if_neg c2, if_neg (fun w => (mem_snoc.mp w).elim c c2)]
      · intro H3 S3 k3 e3 nd3 sub3 dead
        refine ⟨false, rfl, iteT ?_⟩
        have sH3 : Same (upd H d (.frz od (.dK (dm P fun g => .ref (ad g))))) H3 := fun b o e => k3 b o (fun hm => by
          rw [List.mem_singleton.mp hm] at e
          rw [s1 _ _ e] at ns
          cases ns) (s2 b o (s1 b o e))
        exact ⟨sH3 _ _ upd_same, kN (Dead.none wf ok gP c1 c0 nd3 dead) _ (unlock_same hd sH3)⟩
    · rintro σ H1 ⟨L, own, v2, rfl, s1, e1, nL, sub, ok, hc⟩
      refine ⟨s1 _ _ upd_same, ?_⟩
      have h1 : ∀ g, g ∈ P → cnt P (hOf L own) g = 1 := fun g hg => by rw [hc g hg, if_pos (by rw [List.take_length]; exact hg)]
      obtain ⟨M, hM, hMo⟩ := all_held ok h1
      have inL : ∀ t, t ∈ L → own t ∈ P ∧ M (own t) = t := fun t ht => by
        have e : hOf L own t = some (own t) := if_pos ht
        have oP := (ok t _ e).1
        exact ⟨oP, ((hMo _ oP).2.2 t (sub t ht) e).symm⟩
      have ofP : ∀ g, g ∈ P → M g ∈ L ∧ own (M g) = g := fun g hg => by
        have e := (hMo g hg).2.1
        by_cases c : M g ∈ L
        · have e2 : hOf L own (M g) = some (own (M g)) := if_pos c
          rw [e2] at e
          exact ⟨c, Option.some.inj e⟩
        · have e2 : hOf L own (M g) = none := if_neg c
          rw [e2] at e
          cases e
      have S1 : Same H (upd H1 d (.dK (dm P fun g => .ref (ad g)))) := unlock_same hd s1
      have E1 : upd H1 d (.dK (dm P fun g => .ref (ad g))) dh = some (.dK (dm L (hv own))) := by rw [upd_ne ndh]; exact e1
      have D1 : upd H1 d (.dK (dm P fun g => .ref (ad g))) d = some (.dK (dm P fun g => .ref (ad g))) := upd_same
      generalize upd H1 d (.dK (dm P fun g => .ref (ad g))) = H2 at S1 E1 D1 ⊢
      refine ⟨dh, _, E1, trivial, fun oh => ⟨_, rfl, dh, oh, rfl, .inl ⟨_, upd_same, fun D nD => ?_⟩⟩⟩
      have nDd : D ≠ d := fun z => by rw [z, upd_ne ndh.symm, D1] at nD; cases nD
      refine dg_turns (t := false) L.length (fun i H3 => Same (upd H2 dh (.frz oh (.dK (dm L (hv own))))) H3 ∧ H3 D = some (.dK (dm ((L.take i).map own) (hv M)))) ⟨same_new nD, upd_same⟩ (fun i H3 hi p => ⟨p.1 _ _ upd_same, by rw [dm_len]; exact hi⟩) (fun H3 p => ⟨p.1 _ _ upd_same, by rw [dm_len]; exact Nat.le_refl _⟩) ?_ ?_
      · rintro i H3 hi ⟨s3, e3⟩ x H4 ⟨rfl, kk, v, hk, rfl⟩
        obtain ⟨t, ht, rfl, rfl⟩ := dm_at hk
        have tL := mem_at ht
        refine ⟨rfl, ?_⟩
        refine ⟨_, rfl, _, rfl, dh, _, rfl, get_dm (.inr ⟨oh, s3 _ _ upd_same⟩) tL, _, rfl, _, DPut.k (k := Sum.inr (own t)) e3 ?_, s3.put nD, ?_⟩
        · rw [dm_len, List.length_map, List.length_take]
          have := len_le_of_sub nL sub
          exact lt24 (by omega)
        · rw [upd_same]
          have em : (L.take (i + 1)).map own = (L.take i).map own ++ [own t] := by rw [take_next ht, List.map_append] <;> rfl
          have ef : kV (Sum.inr t) = hv M (own t) := by show V.str t = V.str (M (own t)); rw [(inL t tL).2]
          rw [em, ef, put_known]
          intro hm
          obtain ⟨t', h1, h2⟩ := List.mem_map.mp hm
          have h3 : t' = t := by rw [← (inL t' (List.mem_of_mem_take h1)).2, ← (inL t tL).2, h2]
          exact not_mem_take nL ht (h3 ▸ h1)
      · rintro H3 ⟨s3, e3⟩
        obtain ⟨q1, q2, q3, q4⟩ := behind_lock E1 nD s3
        refine ⟨q1, ?_⟩
        have E3 := q4 _ e3
        rw [List.take_length] at E3
        have D3 := q2 _ _ D1
        have S3 := S1.trans q2
        generalize upd H3 dh (.dK (dm L (hv own))) = H4 at E3 D3 S3 ⊢
        refine ⟨d, _, D3, trivial, fun od2 => ⟨_, rfl, d, od2, rfl, .inl ⟨_, upd_same, fun G nG => ?_⟩⟩⟩
        refine dg_turns (t := false) P.length (fun i H5 => Same (upd H4 d (.frz od2 (.dK (dm P fun g => .ref (ad g))))) H5 ∧ H5 G = some (.dK (dm (P.take i) (hv M)))) ⟨same_new nG, upd_same⟩ (fun i H5 hi p => ⟨p.1 _ _ upd_same, by rw [dm_len]; exact hi⟩) (fun H5 p => ⟨p.1 _ _ upd_same, by rw [dm_len]; exact Nat.le_refl _⟩) ?_ ?_
        · rintro i H5 hi ⟨s5, e5⟩ x H6 ⟨rfl, kk, v, hk, rfl⟩
          obtain ⟨g, hg, rfl, rfl⟩ := dm_at hk
          have gP := mem_at hg
          refine ⟨rfl, ?_⟩
          have gT : g ∈ L.map own := List.mem_map.mpr ⟨M g, (ofP g gP).1, (ofP g gP).2⟩
          refine ⟨_, rfl, _, rfl, _, rfl, D, _, rfl, get_dm (.inl (s5 _ _ (same_lock D3 E3 nDd))) gT, _, DPut.k (k := Sum.inr g) e5 (by rw [dm_len, List.length_take]; exact lt24 (by omega)), s5.put nG, ?_⟩
          rw [upd_same, put_known (not_mem_take wf.nd hg), take_next hg]
        · rintro H5 ⟨s5, e5⟩
          obtain ⟨r1, r2, r3, r4⟩ := behind_lock D3 nG s5
          refine ⟨r1, kY M _ G hM (S3.trans r2) (S3.free r3) (r4 _ ?_)⟩
          rw [e5, List.take_length]
end
end G
set_option Elab.async false
set_option linter.all false
set_option maxRecDepth 100000
set_option maxHeartbeats 4000000
namespace G
open PySem PySem.Spec PyProof.Rows L2 GM
theorem lc_keep {J : It} {G : Hp → Prop} {xs : List V} (w : Walk J xs.length G (YAt xs)) {k : Nat} {tt : TT} {vs : List Nat} {σ : L2.St} {H1 : Hp} {D : Addr} {Qd : Hp → Prop} (p : V → Bool) (hG : ∀ H, Same H1 H → G H) (nD : H1 D = none) (hl : xs.length < sizeLine)
    (hw : ∀ v, wipe ((wipe σ vs).set k (some v)) vs = wipe σ vs) (hv : ∀ v, ((wipe σ vs).set k (some v))[k]? = some (some v))
    (step : ∀ (i : Nat) x H, xs[i]? = some x → Same H1 H → ∀ C : Bool → Hp → Prop, (∀ H', Same H H' → C (p x) H') → tt ((wipe σ vs).set k (some x)) H C)
    (hd : ∀ H, Same H1 H → H D = some (.lst (xs.filter p)) → Qd H) :
    ∃ W : Nat → Nat → Hp → Prop, (∃ m, W 0 m (upd H1 D (.lst []))) ∧ ∀ i m H, W i m H →
      (J.stop i H ∧ Qd H) ∨ (J.go i H ∧ ∃ Nx : Hp → Prop, (∀ H', Nx H' → ∃ m', m' < m ∧ W (i + 1) m' H') ∧ ∀ x H', J.yld i H x H' → gName k x (wipe σ vs) H' fun σ2 H2 => wipe σ2 vs = wipe σ vs ∧ tt σ2 H2 fun b H3 =>
        if b = true then tVar k σ2 H3 fun y H4 => ∃ acc, H4 D = some (.lst acc) ∧ acc.length < sizeLine ∧ Nx (upd H4 D (.lst (acc ++ [y]))) else Nx H3) := by
  refine lc_it w (fun i H => Same H1 H ∧ H D = some (.lst ((xs.take i).filter p))) ⟨same_new nD, upd_same⟩ (fun i H _ z => hG H z.1) ?_ (fun H z => hd H z.1 (by rw [z.2, List.take_length]))
  rintro i x H H' hi ⟨s1, e1⟩ ⟨rfl, hx⟩
  refine ⟨hw x, step i x _ hx s1 _ fun H3 s3 => ?_⟩
  have e3 := s3 _ _ e1
  have tk : (xs.take (i + 1)).filter p = (xs.take i).filter p ++ (if p x = true then [x] else []) := by
    rw [take_next hx, List.filter_append]
    congr 1
    cases c : p x with
    | true => rw [List.filter_cons_of_pos c]; rfl
    | false => rw [List.filter_cons_of_neg (by rw [c]; exact Bool.false_ne_true)]; rfl
  cases c : p x with
  | true =>
    refine iteT ⟨x, hv x, _, e3, ?_, (s1.trans s3).put nD, ?_⟩
    · have h1 := List.length_filter_le p (xs.take i)
      rw [List.length_take] at h1
      omega
    · rw [upd_same, tk, if_pos c]
  | false =>
    refine iteF ⟨s1.trans s3, ?_⟩
    rw [e3, tk, c]
    rw [if_neg Bool.false_ne_true, List.append_nil]
theorem txs_filter (l : List Str) (p : V → Bool) : (txs l).filter p = txs (l.filter fun t => p (.str t)) := by
  unfold txs
  rw [List.filter_map]
  rfl
theorem txs_lt {l : List Str} (h : l.length ≤ 24) : (txs l).length < sizeLine := by rw [txs_len]; exact lt24 h
def spFixed : Sp := fun vs H Q _ => ∃ (d : Addr) (g t : Str) (P : List Str) (R : Str → List Str), vs = [.ref d, .str g, .str t] ∧ RowsU H d P R ∧ P.Nodup ∧ P.length ≤ 24 ∧ (∀ o, o ∈ P → (R o).length ≤ 24) ∧
  ∀ (H' : Hp) (p : Addr), RowsU H' p P (fixF R g t) → Same H H' → H p = none → Q (.ref p) H'
section
variable {P : Program} {w : World} {K : PySem.W.Frag} {mg : Str → Option Value} {base : Heap}
theorem c_fixed (T : Tx K mg) : C8.Cal P w K mg base 1 "fixed" spFixed [] := by
  obtain ⟨fd, F, b⟩ := T.f_fixed
  refine ⟨_, fd, _, [], F.ok (k := 0) sc_fixed (fun vs H Q E h => ?_) (fun cdv A outer s H vs Q E hr h => ?_), T.g_fixed, F.kp, b, .nil⟩
  · obtain ⟨_, _, _, _, _, rfl, _⟩ := h
    rfl
  · obtain ⟨d, g, t, P, R, rfl, hR, nd, hl, hr2, k⟩ := h
    have hu := hu_of hr
    refine ⟨_, pss_cons (ps_set (i := 3) sc_fixed.nd rfl (.inl rfl) pe_dnewK)
      (pss_cons (ps_lock (ps_for PassesOwn.never rfl (pi_keys (pv 0)) (pg_name (i := 4) sc_fixed.nd rfl (.inl rfl))
        (pss_one (ps_if (pt_cmpR op_eq (pv 4) (pv 1) rfl)
          (pss_one (ps_dput hu (pv 3) (pv 4) (pe_lc rfl sc_fixed.nd (pi_list (pe_dget hu (pv 0) (pv 4) (fun _ _ => rfl))) (blkOk_by (own := [("name", 5)]) (N := N_fixed) (sc := defScope s_fixed) (by decide +kernel))
            (fun _ _ _ _ _ => pg_name (i := 5) sc_fixed.nd rfl (Or.inl rfl)) (fun _ _ _ _ _ => pts_one (pt_cmpR op_eq (pv 5) (pv 2) rfl)) (fun _ _ _ _ _ => pv 5)) rfl))
          (pss_one (ps_dput hu (pv 3) (pv 4) (pe_lc rfl sc_fixed.nd (pi_list (pe_dget hu (pv 0) (pv 4) (fun _ _ => rfl))) (blkOk_by (own := [("name", 5)]) (N := N_fixed) (sc := defScope s_fixed) (by decide +kernel))
            (fun _ _ _ _ _ => pg_name (i := 5) sc_fixed.nd rfl (Or.inl rfl)) (fun _ _ _ _ _ => pts_one (pt_cmpR op_ne (pv 5) (pv 2) rfl)) (fun _ _ _ _ _ => pv 5)) rfl))))))
      (pss_one (ps_ret (pv 3)))), ?_⟩
    intro dr nr
    obtain ⟨ad, hd, hL⟩ := id hR
    have nrd : dr ≠ d := (ne_of_none hd nr).symm
    have hd1 : upd H dr (.dK []) d = some (.dK (dm P fun o => .ref (ad o))) := by rw [upd_ne nrd.symm]; exact hd
    refine ⟨d, _, hd1, trivial, fun od => ⟨_, rfl, d, od, rfl, .inl ⟨_, upd_same, ?_⟩⟩⟩
    have sL : Same (upd H d (.frz od (.dK (dm P fun o => .ref (ad o))))) (upd (upd H dr (.dK [])) d (.frz od (.dK (dm P fun o => .ref (ad o))))) := fun b o e => by
      by_cases c : b = d
      · rw [c, upd_same] at e ⊢
        exact e
      · rw [upd_ne c] at e ⊢
        rw [upd_ne (ne_of_none e nr)]
        exact e
    have lad : ∀ o, o ∈ P → upd H d (.frz od (.dK (dm P fun o => .ref (ad o)))) (ad o) = some (.lst (txs (R o))) := fun o ho => by
      rw [upd_ne (ne_of (hL o ho) hd (by intro z; cases z))]
      exact hL o ho
    have nL : upd H d (.frz od (.dK (dm P fun o => .ref (ad o)))) dr = none := by rw [upd_ne nrd]; exact nr
    refine for_turns P.length (fun i σ H1 => ∃ (v4 : Option V) (ae : Str → Addr), σ = [some (.ref d), some (.str g), some (.str t), some (.ref dr), v4, none] ∧ Same (upd H d (.frz od (.dK (dm P fun o => .ref (ad o))))) H1 ∧ H1 dr = some (.dK (dm (P.take i) fun o => .ref (ae o))) ∧
        ∀ o, o ∈ P.take i → H1 (ae o) = some (.lst (txs (fixF R g t o))))
      ⟨none, fun _ => d, rfl, sL, by rw [upd_ne nrd, upd_same]; rfl, fun o ho => by simp at ho⟩ (fun i σ H1 hi p => ?_) (fun σ H1 p => ?_) ?_ ?_
    · obtain ⟨_, _, _, s1, _⟩ := p
      exact ⟨s1 _ _ upd_same, by rw [dm_len]; exact hi⟩
    · obtain ⟨_, _, _, s1, _⟩ := p
      exact ⟨s1 _ _ upd_same, by rw [dm_len]; exact Nat.le_refl _⟩
    · rintro i σ H1 hi ⟨v4, ae, rfl, s1, e1, q1⟩ x H2 ⟨rfl, kk, v, hk, rfl⟩
      obtain ⟨o, ho, rfl, rfl⟩ := dm_at hk
      have oP := mem_at ho
      have on := not_mem_take nd ho
      have fin : ∀ (H3 : Hp) (D : Addr) (xs : List V), H2 D = none → Same H2 H3 → H3 D = some (.lst xs) → xs = txs (fixF R g t o) →
          ∃ H4, DPut H3 dr (.str o) (.ref D) H4 ∧ ∃ (v4 : Option V) (ae : Str → Addr), [some (.ref d), some (.str g), some (.str t), some (.ref dr), some (.str o), none] = [some (V.ref d), some (.str g), some (.str t), some (.ref dr), v4, none] ∧ Same (upd H d (.frz od (.dK (dm P fun o => .ref (ad o))))) H4 ∧ H4 dr = some (.dK (dm (P.take (i + 1)) fun o => .ref (ae o))) ∧
            ∀ o, o ∈ P.take (i + 1) → H4 (ae o) = some (.lst (txs (fixF R g t o))) := fun H3 D xs nD s3 e3 ex => by
        refine ⟨_, DPut.k (k := Sum.inr o) (s3 _ _ e1) (by rw [dm_len, List.length_take]; exact lt24 (by omega)), _, fset ae o D, rfl, (s1.trans s3).put nL, ?_, fun u hu' => ?_⟩
        · rw [upd_same, put_next nd ho]
          have : fset (fun o => V.ref (ae o)) o (.ref D) = fun z => V.ref (fset ae o D z) := by
            funext z
            by_cases c : z = o
            · rw [c, fset_same, fset_same]
            · rw [fset_ne _ _ c, fset_ne _ _ c]
          rw [this]
        · rw [take_next ho] at hu'
          rcases mem_snoc.mp hu' with c | c
          · rw [c, fset_same, upd_ne (fun z => by rw [z, s3 _ _ e1] at e3; cases e3), e3, ex]
          · rw [fset_ne _ _ (fun (z : u = o) => on (z ▸ c)), upd_ne (ne_of (s3 _ _ (q1 u c)) (s3 _ _ e1) (by intro z; cases z))]
            exact s3 _ _ (q1 u c)
      by_cases c : o = g
      · refine ⟨_, rfl, _, rfl, rfl, true, congrArg V.bl (decide_eq_true (by rw [c]; rfl)), ?_⟩
        refine iteT ⟨_, rfl, _, rfl, d, _, rfl, get_dm (.inr ⟨od, s1 _ _ upd_same⟩) oP, _, rfl, ⟨_, SqL.of (s1 _ _ (lad o oP))⟩, fun D nD => ?_⟩
        refine lc_keep walk_list (k := 5) (fun z => decide (z = V.str t)) (fun H' s' => SqL.of (s' _ _ (s1 _ _ (lad o oP)))) nD (txs_lt (hr2 o oP)) (fun _ => rfl) (fun _ => rfl) (fun i x H' hx s' C hC => ?_) (fun H3 s3 e3 => ?_)
        · obtain ⟨y, hy, rfl⟩ := txs_get hx
          exact ⟨_, rfl, _, rfl, rfl, _, rfl, hC _ fun _ _ e => e⟩
        · refine ⟨_, rfl, _, rfl, dr, ?_⟩
          obtain ⟨H4, p4, r4⟩ := fin H3 D _ nD s3 e3 (by
            rw [txs_filter]
            unfold fixF
            rw [if_pos c]
            congr 1
            refine List.filter_congr fun y _ => ?_
            exact decide_eq_decide.mpr ⟨fun z => by cases z; rfl, fun z => by rw [z]⟩)
          exact ⟨H4, rfl, p4, r4⟩
      · refine ⟨_, rfl, _, rfl, rfl, false, congrArg V.bl (decide_eq_false (fun z => c (by cases z; rfl))), ?_⟩
        refine iteF ⟨_, rfl, _, rfl, d, _, rfl, get_dm (.inr ⟨od, s1 _ _ upd_same⟩) oP, _, rfl, ⟨_, SqL.of (s1 _ _ (lad o oP))⟩, fun D nD => ?_⟩
        refine lc_keep walk_list (k := 5) (fun z => !decide (z = V.str t)) (fun H' s' => SqL.of (s' _ _ (s1 _ _ (lad o oP)))) nD (txs_lt (hr2 o oP)) (fun _ => rfl) (fun _ => rfl) (fun i x H' hx s' C hC => ?_) (fun H3 s3 e3 => ?_)
        · obtain ⟨y, hy, rfl⟩ := txs_get hx
          exact ⟨_, rfl, _, rfl, rfl, _, rfl, hC _ fun _ _ e => e⟩
        · refine ⟨_, rfl, _, rfl, dr, ?_⟩
          obtain ⟨H4, p4, r4⟩ := fin H3 D _ nD s3 e3 (by
            rw [txs_filter]
            unfold fixF
            rw [if_neg c]
            congr 1
            refine List.filter_congr fun y _ => ?_
            by_cases e : y = t
            · rw [e]; simp
            · rw [decide_eq_false (fun (z : V.str y = V.str t) => e (by cases z; rfl)), decide_eq_true e]; rfl)
          exact ⟨H4, rfl, p4, r4⟩
    · rintro σ H1 ⟨v4, ae, rfl, s1, e1, q1⟩
      rw [List.take_length] at e1 q1
      refine ⟨s1 _ _ upd_same, _, rfl, k _ dr ⟨ae, ?_, fun o ho => ?_⟩ (unlock_same hd s1) nr⟩
      · rw [upd_ne nrd]; exact e1
      · rw [upd_ne (ne_of (q1 o ho) (s1 _ _ upd_same) (by intro z; cases z))]
        exact q1 o ho
end
end G
set_option Elab.async false
set_option linter.all false
set_option maxRecDepth 100000
set_option maxHeartbeats 4000000
namespace G
open PySem PySem.Spec PyProof.Rows L2 GM
def onT (f : Str → Bool) : V → Bool := fun v => match v with
  | .str t => f t
  | _ => false
theorem PM.back {P : List Str} {R : Str → List Str} {M : Str → Str} (w : WF P R) (hM : PM P R M) : ∃ inv : Str → Str, Back P M inv (P.map M) := by
  have c : ∀ t, ∃ g, t ∈ P → g ∈ P ∧ M g = t := fun t => by
    by_cases h : t ∈ P
    · obtain ⟨g, h1, h2⟩ := hM.surj w h
      exact ⟨g, fun _ => ⟨h1, h2⟩⟩
    · exact ⟨t, fun z => absurd z h⟩
  refine ⟨fun t => Classical.choose (c t), fun t ht => ?_, fun t ht => Classical.choose_spec (c t) ht, fun g hg => ?_⟩
  · obtain ⟨h1, h2⟩ := Classical.choose_spec (c t) ht
    exact List.mem_map.mpr ⟨_, h1, h2⟩
  · have q := Classical.choose_spec (c (M g)) (w.cl g hg _ (hM.ed g hg))
    exact hM.inj _ q.1 g hg q.2
def Short (P : List Str) (R : Str → List Str) : Prop := ∀ o, o ∈ P → (R o).length ≤ 24
theorem Short.tbl {P : List Str} {R : Str → List Str} (h : Short P R) : Short P (tblF P R) := fun o ho => Nat.le_trans (List.length_filter_le _ _) (h o ho)
theorem Short.fix {P : List Str} {R : Str → List Str} (h : Short P R) (g t : Str) : Short P (fixF R g t) := fun o ho => by
  unfold fixF
  by_cases c : o = g
  · rw [if_pos c]; exact Nat.le_trans (List.length_filter_le _ _) (h o ho)
  · rw [if_neg c]; exact Nat.le_trans (List.length_filter_le _ _) (h o ho)
def spTable : Sp := fun vs H Q _ => ∃ (d : Addr) (P : List Str) (R : Str → List Str), vs = [.ref d] ∧ RowsU H d P R ∧ WF P R ∧ P.length ≤ 24 ∧ Short P R ∧
  ∀ (H' : Hp) (p : Addr), RowsU H' p P (tblF P R) → Same H H' → H p = none → Q (.ref p) H'
theorem fset_ref (ae : Str → Addr) (o : Str) (D : Addr) : fset (fun o => V.ref (ae o)) o (.ref D) = fun z => V.ref (fset ae o D z) := by
  funext z
  by_cases c : z = o
  · rw [c, fset_same, fset_same]
  · rw [fset_ne _ _ c, fset_ne _ _ c]
theorem lock_new {H : Hp} {d D : Addr} {u v o : HO} (hd : H d = some u) (nD : H D = none) : Same (upd H d v) (upd (upd H D o) d v) := fun b w e => by
  by_cases c : b = d
  · rw [c, upd_same] at e ⊢
    exact e
  · rw [upd_ne c] at e ⊢
    rw [upd_ne (ne_of_none e nD)]
    exact e
theorem choose_on {A : Type} (a0 : A) {L : List Str} {p : Str → A → Prop} (h : ∀ g, g ∈ L → ∃ a, p g a) : ∃ f : Str → A, ∀ g, g ∈ L → p g (f g) := by
  have c : ∀ g, ∃ a, g ∈ L → p g a := fun g => by
    by_cases e : g ∈ L
    · obtain ⟨a, q⟩ := h g e
      exact ⟨a, fun _ => q⟩
    · exact ⟨a0, fun z => absurd z e⟩
  exact ⟨fun g => Classical.choose (c g), fun g hg => Classical.choose_spec (c g) hg⟩
section
variable {P : Program} {w : World} {K : PySem.W.Frag} {mg : Str → Option Value} {base : Heap}
theorem c_table_rows (T : Tx K mg) : C8.Cal P w K mg base 28 "table_rows" spTable [] := by
  have cP := c_paired (P := P) (w := w) (base := base) T
  have cO := c_owners_of (P := P) (w := w) (base := base) T
  have cR := c_reached (P := P) (w := w) (base := base) T
  obtain ⟨fd, F, b⟩ := T.f_table_rows
  refine ⟨_, fd, _, [], F.ok (k := 27) sc_table_rows (fun vs H Q E h => ?_) (fun cdv A outer s H vs Q E hr h => ?_), T.g_table_rows, F.kp, b, .nil⟩
  · obtain ⟨_, _, _, rfl, _⟩ := h
    rfl
  · obtain ⟨d, P, R, rfl, hR, wf, hl, sh, k⟩ := h
    have hu := hu_of hr
    have hu0 := Nat.lt_of_succ_lt hu
    refine ⟨_, pss_cons (ps_set (i := 1) sc_table_rows.nd rfl (.inl rfl) (C8.pe_c cP hr (Nat.le_refl _) rfl (pa_cons (pv 0) pa_nil)))
      (pss_cons (ps_if (pt_cmp (pc_isN (pv 1))) (pss_one (ps_ret (pe_lock (pe_dg false hu0 rfl sc_table_rows.nd (pi_keys (pv 0)) (blkOk_by (own := [("giver", 2)]) (N := N_table_rows) (sc := defScope s_table_rows) (by decide +kernel))
          (fun _ _ _ _ _ => pg_name (i := 2) sc_table_rows.nd rfl (Or.inl rfl)) (fun _ _ _ _ _ => pts_nil) (fun _ _ _ _ _ => pv 2) (fun _ _ _ _ _ => pe_lst pa_nil))))) pss_nil)
      (pss_cons (ps_set (i := 3) sc_table_rows.nd rfl (.inr rfl) (C8.pe_c cO hr (by decide) rfl (pa_cons (pv 1) pa_nil)))
      (pss_cons (ps_set (i := 4) sc_table_rows.nd rfl (.inr rfl) (pe_lock (pe_dg false hu0 rfl sc_table_rows.nd (pi_keys (pv 0)) (blkOk_by (own := [("giver", 2)]) (N := N_table_rows) (sc := defScope s_table_rows) (by decide +kernel))
          (fun _ _ _ _ _ => pg_name (i := 2) sc_table_rows.nd rfl (Or.inl rfl)) (fun _ _ _ _ _ => pts_nil) (fun _ _ _ _ _ => pv 2) (fun _ _ _ _ _ => C8.pe_c cR hr (by decide) rfl (pa_cons (pv 0) (pa_cons (pv 3) (pa_cons (pv 2) pa_nil)))))))
      (pss_cons (ps_set (i := 5) sc_table_rows.nd rfl (.inl rfl) pe_dnewK)
      (pss_cons (ps_lock (ps_for PassesOwn.never rfl (pi_keys (pv 0)) (pg_name (i := 2) sc_table_rows.nd rfl (.inr rfl))
        (pss_one (ps_dput hu (pv 5) (pv 2) (pe_lc rfl sc_table_rows.nd (pi_list (pe_dget hu (pv 0) (pv 2) (fun _ _ => rfl))) (blkOk_by (own := [("taker", 6)]) (N := N_table_rows) (sc := defScope s_table_rows) (by decide +kernel))
          (fun _ _ _ _ _ => pg_name (i := 6) sc_table_rows.nd rfl (Or.inl rfl)) (fun _ _ _ _ _ => pts_one (pt_cmp (pc_din hu (pv 2) (pe_dget hu (pv 4) (pe_dget hu (pv 3) (pv 6) (fun _ _ => rfl)) (fun _ _ => rfl))))) (fun _ _ _ _ _ => pv 6)) rfl))))
      (pss_one (ps_ret (pv 5)))))))), ?_⟩
    refine ⟨_, rfl, d, P, R, rfl, hR, wf, hl, ?_, ?_⟩
    · intro M H1 p hM s1 np e1
      obtain ⟨inv, bk⟩ := PM.back wf hM
      refine ⟨_, rfl, false, congrArg V.bl (decide_eq_false (fun z => by cases z)), iteF ?_⟩
      refine ⟨_, rfl, p, P, M, inv, rfl, e1, wf.nd, hl, bk.back, fun H2 q s2 nq e2 => ?_⟩
      have hR2 := (hR.same s1).same s2
      obtain ⟨ad, hd0, hL0⟩ := id hR
      have S2 := s1.trans s2
      have hd := S2 _ _ hd0
      have hL := fun g hg => S2 _ _ (hL0 g hg)
      have qd : q ≠ d := (ne_of_none (s1 _ _ hd0) nq).symm
      refine ⟨d, _, hd, trivial, fun od => ⟨_, rfl, d, od, rfl, .inl ⟨_, upd_same, fun D nD => ?_⟩⟩⟩
      have nDd : D ≠ d := fun z => by rw [z, upd_same] at nD; cases nD
      have hRL : Rows (upd H2 d (.frz od (.dK (dm P fun g => .ref (ad g))))) d P R := ⟨ad, .inr ⟨od, upd_same⟩, fun g hg => by rw [upd_ne (ne_of (hL g hg) hd (by intro z; cases z))]; exact hL g hg⟩
      have eqL : upd H2 d (.frz od (.dK (dm P fun g => .ref (ad g)))) q = some (.dK (dm (P.map M) (hv inv))) := by rw [upd_ne qd]; exact e2
      refine dg_turns (t := false) P.length (fun i H3 => ∃ ar : Str → Addr, Same (upd H2 d (.frz od (.dK (dm P fun g => .ref (ad g))))) H3 ∧ H3 D = some (.dK (dm (P.take i) fun g => .ref (ar g))) ∧ ∀ g, g ∈ P.take i → ∃ Fd : List Str, (H3 (ar g) = some (.dK (dm Fd yes)) ∧ ar g ≠ D) ∧ ∀ z, z ∈ Fd ↔ Reach P R M g z) ⟨fun _ => d, same_new nD, upd_same, fun g hg => by simp at hg⟩ (fun i H3 hi p => ?_) (fun H3 p => ?_) ?_ ?_
      · obtain ⟨_, s3, _⟩ := p
        exact ⟨s3 _ _ upd_same, by rw [dm_len]; exact hi⟩
      · obtain ⟨_, s3, _⟩ := p
        exact ⟨s3 _ _ upd_same, by rw [dm_len]; exact Nat.le_refl _⟩
      · rintro i H3 hi ⟨ar, s3, e3, q3⟩ x H4 ⟨rfl, kk, v, hk, rfl⟩
        obtain ⟨g, hg, rfl, rfl⟩ := dm_at hk
        have gP := mem_at hg
        have gn := not_mem_take wf.nd hg
        refine ⟨rfl, ?_⟩
        refine ⟨_, rfl, _, rfl, _, rfl, _, rfl, d, q, g, P, R, M, inv, P.map M, rfl, hRL.same s3, .inl (s3 _ _ eqL), wf, hl, gP, bk, fun H5 p5 Fd s5 n5 e5 hF => ?_⟩
        have n5D : p5 ≠ D := (ne_of_none e3 n5).symm
        refine ⟨_, DPut.k (k := Sum.inr g) (s5 _ _ e3) (by rw [dm_len, List.length_take]; exact lt24 (by omega)), fset ar g p5, (s3.trans s5).put nD, ?_, fun u hu' => ?_⟩
        · rw [upd_same, put_next wf.nd hg, fset_ref]
        · rw [take_next hg] at hu'
          rcases mem_snoc.mp hu' with c | c
          · rw [c, fset_same, upd_ne n5D]
            exact ⟨Fd, ⟨e5, n5D⟩, hF⟩
          · obtain ⟨Fe, ⟨a1, a2⟩, a3⟩ := q3 u c
            rw [fset_ne _ _ (fun (z : u = g) => gn (z ▸ c)), upd_ne a2]
            exact ⟨Fe, ⟨s5 _ _ a1, a2⟩, a3⟩
      · rintro H3 ⟨ar, s3, e3, q3⟩
        rw [List.take_length] at e3 q3
        obtain ⟨r1, r2, r3, r4⟩ := behind_lock hd nD s3
        obtain ⟨Fm, hFm⟩ := choose_on ([] : List Str) q3
        refine ⟨r1, ?_⟩
        have q4 : ∀ g, g ∈ P → ar g ≠ d ∧ upd H3 d (.dK (dm P fun g => .ref (ad g))) (ar g) = some (.dK (dm (Fm g) yes)) := fun g hg => by
          have n : ar g ≠ d := fun z => by have := (hFm g hg).1.1; rw [z, r1] at this; cases this
          rw [upd_ne n]
          exact ⟨n, (hFm g hg).1.1⟩
        have e4 := r4 _ e3
        have hd4 := r2 _ _ hd
        have hL4 := fun g hg => r2 _ _ (hL g hg)
        have o4 := r2 _ _ e2
        have S4 := S2.trans r2
        generalize upd H3 d (.dK (dm P fun g => .ref (ad g))) = H4 at q4 e4 hd4 hL4 o4 S4 ⊢
        intro dr nr
        have nrd : dr ≠ d := (ne_of_none hd4 nr).symm
        have hd5 : upd H4 dr (.dK []) d = some (.dK (dm P fun o => .ref (ad o))) := by rw [upd_ne nrd.symm]; exact hd4
        refine ⟨d, _, hd5, trivial, fun od2 => ⟨_, rfl, d, od2, rfl, .inl ⟨_, upd_same, ?_⟩⟩⟩
        have sL := lock_new (v := .frz od2 (.dK (dm P fun o => .ref (ad o)))) (o := .dK []) hd4 nr
        have nL : upd H4 d (.frz od2 (.dK (dm P fun o => .ref (ad o)))) dr = none := by rw [upd_ne nrd]; exact nr
        have st : ∀ {b : Addr} {o : HO}, H4 b = some o → o ≠ (.dK (dm P fun o => .ref (ad o))) → upd H4 d (.frz od2 (.dK (dm P fun o => .ref (ad o)))) b = some o := fun {b o} e n => by
          rw [upd_ne (fun z => by rw [z, hd4] at e; exact n (Option.some.inj e).symm)]
          exact e
        have lad : ∀ o, o ∈ P → upd H4 d (.frz od2 (.dK (dm P fun o => .ref (ad o)))) (ad o) = some (.lst (txs (R o))) := fun o ho => st (hL4 o ho) (by intro z; cases z)
        have dn : ∀ {b : Addr} {o : HO}, b ≠ d → H4 b = some o → upd H4 d (.frz od2 (.dK (dm P fun o => .ref (ad o)))) b = some o := fun n e => by rw [upd_ne n]; exact e
        refine for_turns P.length (fun i σ H1 => ∃ (v2 : Option V) (ae : Str → Addr), σ = [some (.ref d), some (.ref p), v2, some (.ref q), some (.ref D), some (.ref dr), none] ∧ Same (upd H4 d (.frz od2 (.dK (dm P fun o => .ref (ad o))))) H1 ∧ H1 dr = some (.dK (dm (P.take i) fun o => .ref (ae o))) ∧
            ∀ o, o ∈ P.take i → H1 (ae o) = some (.lst (txs (tblF P R o))))
          ⟨none, fun _ => d, rfl, sL, by rw [upd_ne nrd, upd_same]; rfl, fun o ho => by simp at ho⟩ (fun i σ H1 hi p => ?_) (fun σ H1 p => ?_) ?_ ?_
        · obtain ⟨_, _, _, s1, _⟩ := p
          exact ⟨s1 _ _ upd_same, by rw [dm_len]; exact hi⟩
        · obtain ⟨_, _, _, s1, _⟩ := p
          exact ⟨s1 _ _ upd_same, by rw [dm_len]; exact Nat.le_refl _⟩
        · rintro i σ H5 hi ⟨v2, ae, rfl, s5, e5, q5⟩ x H6 ⟨rfl, kk, v, hk, rfl⟩
          obtain ⟨g, hg, rfl, rfl⟩ := dm_at hk
          have gP := mem_at hg
          have gn := not_mem_take wf.nd hg
          refine ⟨_, rfl, _, rfl, d, _, rfl, get_dm (.inr ⟨od2, s5 _ _ upd_same⟩) gP, _, rfl, ⟨_, SqL.of (s5 _ _ (lad g gP))⟩, fun N nN => ?_⟩
          refine lc_keep walk_list (k := 6) (onT fun t => (if g ∈ Fm (inv t) then some (yes g) else none).isSome) (fun H' s' => SqL.of (s' _ _ (s5 _ _ (lad g gP)))) nN (txs_lt (sh g gP)) (fun _ => rfl) (fun _ => rfl) (fun i x H' hx s' C hC => ?_) (fun H7 s7 e7 => ?_)
          · obtain ⟨t, ht, rfl⟩ := txs_get hx
            have tP := wf.cl g gP t (mem_at ht)
            have iP := (bk.own t tP).1
            have S' := s5.trans s'
            exact ⟨_, rfl, _, rfl, _, rfl, _, rfl, q, _, rfl, get_dm (.inl (S' _ _ (dn qd o4))) (bk.key t tP), D, _, rfl, get_dm (.inl (S' _ _ (dn nDd e4))) iP, ar (inv t), _, rfl, ask_dm g (.inl (S' _ _ (dn (q4 _ iP).1 (q4 _ iP).2))), _, rfl, hC _ fun _ _ e => e⟩
          · refine ⟨_, rfl, _, rfl, dr, ?_⟩
            have ex : (txs (R g)).filter (onT fun t => (if g ∈ Fm (inv t) then some (yes g) else none).isSome) = txs (tblF P R g) := by
              rw [txs_filter]
              unfold tblF
              congr 1
              refine List.filter_congr fun t ht => ?_
              have tP := wf.cl g gP t ht
              obtain ⟨o1, o2⟩ := bk.own t tP
              have iff1 := poss_iff wf hM o1 gP (by rw [o2]; exact ht)
              rw [o2] at iff1
              show (if g ∈ Fm (inv t) then some (yes g) else none).isSome = possB P R g t
              by_cases c : g ∈ Fm (inv t)
              · rw [if_pos c, possB_iff.mpr (iff1.mpr (((hFm _ o1).2 g).mp c))] <;> rfl
              · rw [if_neg c]
                cases e : possB P R g t with
                | false => rfl
                | true => exact absurd (((hFm _ o1).2 g).mpr (iff1.mp (possB_iff.mp e))) c
            rw [ex] at e7
            refine ⟨_, rfl, DPut.k (k := Sum.inr g) (s7 _ _ e5) (by rw [dm_len, List.length_take]; exact lt24 (by omega)), _, fset ae g N, rfl, (s5.trans s7).put nL, ?_, fun u hu' => ?_⟩
            · rw [upd_same, put_next wf.nd hg, fset_ref]
            · rw [take_next hg] at hu'
              rcases mem_snoc.mp hu' with c | c
              · rw [c, fset_same, upd_ne (fun z => by rw [z, s7 _ _ e5] at e7; cases e7), e7]
              · rw [fset_ne _ _ (fun (z : u = g) => gn (z ▸ c)), upd_ne (ne_of (s7 _ _ (q5 u c)) (s7 _ _ e5) (by intro z; cases z))]
                exact s7 _ _ (q5 u c)
        · rintro σ H5 ⟨v2, ae, rfl, s5, e5, q5⟩
          rw [List.take_length] at e5 q5
          refine ⟨s5 _ _ upd_same, _, rfl, k _ dr ⟨ae, ?_, fun o ho => ?_⟩ (S4.trans (unlock_same hd4 s5)) (S4.free nr)⟩
          · rw [upd_ne nrd]; exact e5
          · rw [upd_ne (ne_of (q5 o ho) (s5 _ _ upd_same) (by intro z; cases z))]
            exact q5 o ho
    · intro hno H1 s1
      have tn := tblF_nil hno
      refine ⟨_, rfl, true, congrArg V.bl (decide_eq_true rfl), iteT ?_⟩
      obtain ⟨ad, hd, hL⟩ := id (hR.same s1)
      refine ⟨d, _, hd, trivial, fun od => ⟨_, rfl, d, od, rfl, .inl ⟨_, upd_same, fun D nD => ?_⟩⟩⟩
      refine dg_turns (t := false) P.length (fun i H2 => ∃ ae : Str → Addr, Same (upd H1 d (.frz od (.dK (dm P fun g => .ref (ad g))))) H2 ∧ H2 D = some (.dK (dm (P.take i) fun g => .ref (ae g))) ∧ ∀ g, g ∈ P.take i → H2 (ae g) = some (.lst [])) ⟨fun _ => d, same_new nD, upd_same, fun g hg => by simp at hg⟩ (fun i H2 hi p => ?_) (fun H2 p => ?_) ?_ ?_
      · obtain ⟨_, s2, _⟩ := p
        exact ⟨s2 _ _ upd_same, by rw [dm_len]; exact hi⟩
      · obtain ⟨_, s2, _⟩ := p
        exact ⟨s2 _ _ upd_same, by rw [dm_len]; exact Nat.le_refl _⟩
      · rintro i H2 hi ⟨ae, s2, e2, q2⟩ x H3 ⟨rfl, kk, v, hk, rfl⟩
        obtain ⟨g, hg, rfl, rfl⟩ := dm_at hk
        have gn := not_mem_take wf.nd hg
        refine ⟨rfl, ?_⟩
        refine ⟨_, rfl, (by decide : 0 ≤ sizeLine), fun l nl => ?_⟩
        have s3 := same_new (o := .lst []) nl
        refine ⟨_, DPut.k (k := Sum.inr g) (s3 _ _ e2) (by rw [dm_len, List.length_take]; exact lt24 (by omega)), fset ae g l, (s2.trans s3).put nD, ?_, fun u hu' => ?_⟩
        · rw [upd_same, put_next wf.nd hg, fset_ref]
        · rw [take_next hg] at hu'
          rcases mem_snoc.mp hu' with c | c
          · rw [c, fset_same, upd_ne (fun z => by rw [z, e2] at nl; cases nl), upd_same]
          · rw [fset_ne _ _ (fun (z : u = g) => gn (z ▸ c)), upd_ne (ne_of (s3 _ _ (q2 u c)) (s3 _ _ e2) (by intro z; cases z))]
            exact s3 _ _ (q2 u c)
      · rintro H2 ⟨ae, s2, e2, q2⟩
        rw [List.take_length] at e2 q2
        obtain ⟨r1, r2, r3, r4⟩ := behind_lock hd nD s2
        refine ⟨r1, k _ D ⟨ae, r4 _ e2, fun g hg => ?_⟩ (s1.trans r2) (s1.free r3)⟩
        rw [tn g, upd_ne (ne_of (q2 g hg) r1 (by intro z; cases z))]
        exact q2 g hg
end
end G
set_option Elab.async false
set_option linter.all false
set_option maxRecDepth 100000
set_option maxHeartbeats 4000000
namespace G
open PySem PySem.Spec PyProof.Rows L2 GM
def leS (x y : Str) : Prop := ¬ y.cps.toList < x.cps.toList
theorem leS_trans {x y z : Str} (a : leS x y) (b : leS y z) : leS x z := fun h => by
  have h1 : x.cps.toList ≤ y.cps.toList := List.not_lt.mp a
  have h2 : y.cps.toList ≤ z.cps.toList := List.not_lt.mp b
  exact List.not_lt.mpr (List.le_trans h1 h2) h
theorem leS_anti {x y : Str} (a : leS x y) (b : leS y x) : x = y := by
  have h : x.cps.toList = y.cps.toList := List.le_antisymm (List.not_lt.mp a) (List.not_lt.mp b)
  cases x with
  | mk cx => cases y with
    | mk cy =>
      have : cx = cy := Array.toList_inj.mp h
      rw [this]
theorem risingS_pair : ∀ (l : List Str) (p : Str), risingS p l = true → (p :: l).Pairwise leS
  | [], p, _ => List.pairwise_singleton _ _
  | x :: r, p, h => by
    have h0 : (!ltCps x.cps.toList p.cps.toList && risingS x r) = true := h
    rw [Bool.and_eq_true, ltCps_eq, Bool.not_eq_true', decide_eq_false_iff_not] at h0
    have ih := risingS_pair r x h0.2
    refine List.pairwise_cons.mpr ⟨fun z hz => ?_, ih⟩
    rcases List.mem_cons.mp hz with e | e
    · rw [e]; exact h0.1
    · exact leS_trans h0.1 ((List.pairwise_cons.mp ih).1 z e)
theorem sortedS_pair : ∀ l : List Str, sortedS l = true → l.Pairwise leS
  | [], _ => .nil
  | x :: r, h => risingS_pair r x h
def leB (x y : Str) : Bool := !decide (y.cps.toList < x.cps.toList)
theorem leB_iff {x y : Str} : leB x y = true ↔ leS x y := by
  unfold leB leS
  rw [Bool.not_eq_true', decide_eq_false_iff_not]
def srt (m : List Str) : List Str := m.mergeSort leB
theorem srt_pair (m : List Str) : (srt m).Pairwise leS := by
  have h := List.pairwise_mergeSort (le := leB) (fun a b c h1 h2 => leB_iff.mpr (leS_trans (leB_iff.mp h1) (leB_iff.mp h2))) (fun a b => by
    rw [Bool.or_eq_true, leB_iff, leB_iff]
    by_cases c : b.cps.toList < a.cps.toList
    · exact .inr fun z => by
        have q := List.not_lt.mpr (List.le_of_lt c)
        exact q z
    · exact .inl c) m
  exact h.imp fun z => leB_iff.mp z
theorem srt_perm (m : List Str) : (srt m).Perm m := List.mergeSort_perm m leB
theorem srt_eq {l m : List Str} (p : l.Perm m) (h : sortedS l = true) : l = srt m :=
  List.Perm.eq_of_pairwise (fun _ _ _ _ => leS_anti) (sortedS_pair l h) (srt_pair m) (p.trans (srt_perm m).symm)
theorem srt_congr {m m' : List Str} (p : m.Perm m') : srt m = srt m' :=
  List.Perm.eq_of_pairwise (fun _ _ _ _ => leS_anti) (srt_pair m) (srt_pair m') ((srt_perm m).trans (p.trans (srt_perm m').symm))
def freeB (B : List (Str × Str)) (g t : Str) : Bool := !decide (g = t) && !decide ((g, t) ∈ B)
def mayl (P : List Str) (B : List (Str × Str)) (g : Str) : List Str := srt (P.filter (freeB B g))
theorem mem_mayl {P : List Str} {B : List (Str × Str)} {g t : Str} : t ∈ mayl P B g ↔ t ∈ P ∧ g ≠ t ∧ (g, t) ∉ B := by
  unfold mayl
  rw [(srt_perm _).mem_iff, List.mem_filter]
  unfold freeB
  simp
theorem mayl_len (P : List Str) (B : List (Str × Str)) (g : Str) : (mayl P B g).length ≤ P.length := by
  unfold mayl
  rw [(srt_perm _).length_eq]
  exact List.length_filter_le _ _
theorem mayl_other {P P' : List Str} (h : P.Perm P') (B : List (Str × Str)) : mayl P B = mayl P' B := by
  funext g
  unfold mayl
  exact srt_congr (h.filter _)
end G
set_option Elab.async false
set_option linter.all false
set_option maxRecDepth 100000
set_option maxHeartbeats 4000000
namespace G
open PySem PySem.Spec PyProof.Rows L2 GM
theorem rTy (n : String) : RelV (.ty n) (.type n) := rfl
theorem inV_txs (x : Str) : ∀ P : List Str, inV (.str x) (txs P) = decide (x ∈ P)
  | [] => by simp [inV, txs]
  | y :: P => by
    have ih := inV_txs x P
    have h0 : inV (.str x) (txs (y :: P)) = (eqV (.str y) (.str x) || inV (.str x) (txs P)) := rfl
    have h1 : eqV (.str y) (.str x) = decide (x = y) := by
      show (y == x) = decide (x = y)
      by_cases c : x = y
      · rw [c, decide_eq_true rfl]; exact beq_self_eq_true y
      · rw [decide_eq_false c]; exact beq_eq_false_iff_ne.mpr fun z => c z.symm
    rw [h0, h1, ih]
    by_cases c : x = y <;> by_cases d : x ∈ P <;> simp [c, d]
theorem flat_txs (P : List Str) : (txs P).all flatV = true := by
  refine List.all_eq_true.mpr fun v hv => ?_
  obtain ⟨s, _, rfl⟩ := List.mem_map.mp hv
  rfl
theorem cut_take {xs : List V} {i : Nat} (h : i ≤ xs.length) : cutV xs none (some (i : Int)) = xs.take i := by
  unfold cutV
  rw [HT.sIx_none, HT.sIx_nat, List.drop_zero, Nat.sub_zero, Nat.min_eq_left h]
theorem cut_drop {xs : List V} {i : Nat} (h : i ≤ xs.length) : cutV xs (some (i : Int)) none = xs.drop i := by
  unfold cutV
  rw [HT.sIx_none, HT.sIx_nat, Nat.min_eq_left h]
  exact List.take_of_length_le (by rw [List.length_drop]; exact Nat.le_refl _)
theorem txs_take (l : List Str) (i : Nat) : (txs l).take i = txs (l.take i) := by unfold txs; rw [List.map_take]
theorem txs_drop (l : List Str) (i : Nat) : (txs l).drop i = txs (l.drop i) := by unfold txs; rw [List.map_drop]
theorem walk_enumT {K : PySem.W.Frag} {a : Addr} {xs : List V} : Walk (IteT K a) xs.length (fun H => SqT K H a xs) (YPair (fun i => some (.int (i : Nat))) (fun i => xs[i]?)) := by
  refine ⟨fun i _ hi q => ⟨xs, xs[i], q, by simp [hi]⟩, fun _ q => ⟨xs, q, rfl⟩, fun i H v H' _ q y => ?_⟩
  obtain ⟨T, x, h1, h2, h3, h4⟩ := y
  exact ⟨T, .int (i : Nat), x, h1, h2, h3, rfl, h4 xs q⟩
def Diff (P L : List Str) : Prop := (∀ v, v ∈ L → v ∈ P) ∧ L.Nodup
instance (P L : List Str) : Decidable (Diff P L) := by unfold Diff; exact inferInstance
def spIsPerson : Sp := fun vs H Q _ => ∃ (ap : Addr) (P : List Str) (x : Str), vs = [.ref ap, .str x] ∧ H ap = some (.tup (txs P)) ∧ Q (.bl (decide (x ∈ P))) H
def spAreDiff : Sp := fun vs H Q _ => ∃ (ap av : Addr) (P L : List Str), vs = [.ref ap, .ref av] ∧ H ap = some (.tup (txs P)) ∧ H av = some (.tup (txs L)) ∧ L.length ≤ 24 ∧ ∀ H', Same H H' → Q (.bl (decide (Diff P L))) H'
def spIsPair : Sp := fun vs H Q _ => ∃ (ap av : Addr) (P : List Str) (x y : Str), vs = [.ref ap, .ref av] ∧ H ap = some (.tup (txs P)) ∧ H av = some (.tup [.str x, .str y]) ∧ ∀ H', Same H H' → Q (.bl (decide (x ∈ P ∧ y ∈ P ∧ x ≠ y))) H'
section
variable {P : Program} {w : World} {K : PySem.W.Frag} {mg : Str → Option Value} {base : Heap}
theorem c_is_person (T : Tx K mg) : C8.Cal P w K mg base 1 "is_person" spIsPerson [] := by
  obtain ⟨fd, F, b⟩ := T.f_is_person
  refine ⟨_, fd, _, [], F.ok (k := 0) sc_is_person (fun vs H Q E h => ?_) (fun cdv A outer s H vs Q E hr h => ?_), T.g_is_person, F.kp, b, .nil⟩
  · obtain ⟨_, _, _, rfl, _⟩ := h
    rfl
  · obtain ⟨ap, P, x, rfl, hp, k⟩ := h
    refine ⟨_, pss_one (ps_ret (pe_and (pe_callB RZ.call_isTy (by rfl) T.b_isinstance (by rfl) (pa_cons (pv 1) (pa_cons (pe_bltn (by rfl) T.b_str (by rfl) (rTy _)) pa_nil))) (pe_one (pe_cmpR op_in_seq (pv 1) (pv 0) rfl)))), ?_⟩
    refine ⟨_, rfl, _, _, rfl, .str x, true, rfl, iteT ?_⟩
    refine ⟨_, rfl, _, rfl, ap, _, rfl, .inr (SqT.of hp), rfl, flat_txs P, ?_⟩
    rw [inV_txs]
    exact k
theorem c_are_different (T : Tx K mg) : C8.Cal P w K mg base 2 "are_different" spAreDiff [] := by
  have cP := c_is_person (P := P) (w := w) (base := base) T
  obtain ⟨fd, F, b⟩ := T.f_are_different
  refine ⟨_, fd, _, [], F.ok (k := 1) sc_are_different (fun vs H Q E h => ?_) (fun cdv A outer s H vs Q E hr h => ?_), T.g_are_different, F.kp, b, .nil⟩
  · obtain ⟨_, _, _, _, rfl, _⟩ := h
    rfl
  · obtain ⟨ap, av, P, L, rfl, hp, hv, hl, k⟩ := h
    refine ⟨_, pss_cons (ps_for PassesOwn.never rfl (pi_enumT (by rfl) T.b_enumerate (pa_cons (pv 1) pa_nil)) (pg_tup rfl (pgs_cons (pg_name (i := 2) sc_are_different.nd rfl (.inl rfl)) (pgs_cons (pg_name (i := 3) sc_are_different.nd rfl (.inl rfl)) pgs_nil)))
        (pss_one (ps_if (PW.pt (pw_or (pt_not (pt_val (C8.pe_c cP hr (Nat.le_refl _) rfl (pa_cons (pv 0) (pa_cons (pv 3) pa_nil))))) (pw_or1 (pt_cmpR op_in_seq (pv 3) (pe_slice sl_tup (pv 1) po_none (po_some (pv 2))) rfl))))
          (pss_one (ps_ret pe_bl)) pss_nil)))
      (pss_one (ps_ret pe_bl)), ?_⟩
    refine ⟨_, rfl, av, txs L, rfl, SqT.of hv, ?_⟩
    refine for_it walk_enumT (fun i σ H1 => ∃ v2 v3 : Option V, σ = [some (.ref ap), some (.ref av), v2, v3] ∧ Same H H1 ∧ Diff P (L.take i)) ⟨none, none, rfl, fun _ _ e => e, by simp [Diff]⟩
      (fun i σ H1 _ p => by obtain ⟨_, _, _, s1, _⟩ := p; exact SqT.of (s1 _ _ hv)) ?_ ?_
    · rintro i x σ H1 H2 hi ⟨v2, v3, rfl, s1, df⟩ ⟨t, a1, a2, rfl, nt, rfl, e1, e2⟩
      cases e1
      obtain ⟨y, hy, rfl⟩ := txs_get e2
      have s2 : Same H1 (upd H1 t (.tup [.int (i : Nat), .str y])) := same_new nt
      have S2 := s1.trans s2
      refine ⟨t, _, rfl, SqT.of upd_same, rfl, _, _, rfl, _, _, rfl, rfl, ?_⟩
      generalize upd H1 t (.tup [.int (i : Nat), .str y]) = H3 at S2 ⊢
      refine ⟨_, rfl, _, rfl, ap, P, y, rfl, S2 _ _ hp, _, rfl, ?_⟩
      by_cases c : y ∈ P
      · rw [decide_eq_true c]
        refine iteF ?_
        have il : i < L.length := (List.getElem?_eq_some_iff.mp hy).1
        refine ⟨_, rfl, _, rfl, _, rfl, _, rfl, av, txs L, rfl, SqT.of (S2 _ _ hv), ?_, fun q nq => ?_⟩
        · intro z
          have z2 := z.2
          rw [HT.sIx_nat, txs_len] at z2
          omega
        · rw [cut_take (by rw [txs_len]; omega), txs_take]
          refine ⟨q, _, rfl, .inr (SqT.of upd_same), rfl, flat_txs _, ?_⟩
          have s4 := S2.trans (same_new (o := .tup (txs (L.take i))) nq)
          refine ⟨_, rfl, ?_⟩
          rw [inV_txs]
          by_cases d : y ∈ L.take i
          · rw [decide_eq_true d]
            refine iteT ?_
            have nD : ¬ Diff P L := fun z => not_mem_take z.2 hy d
            have := k _ s4
            rw [decide_eq_false nD] at this
            exact this
          · rw [decide_eq_false d]
            refine iteF ⟨_, _, rfl, s4, ?_⟩
            rw [take_next hy]
            exact ⟨fun v hv' => (mem_snoc.mp hv').elim (fun e => e ▸ c) (df.1 v), nodup_snoc df.2 d⟩
      · rw [decide_eq_false c]
        refine iteT ?_
        have nD : ¬ Diff P L := fun z => c (z.1 y (mem_at hy))
        have := k _ S2
        rw [decide_eq_false nD] at this
        exact this
    · rintro σ H1 ⟨v2, v3, rfl, s1, df⟩
      rw [txs_len, List.take_length] at df
      have := k _ s1
      rw [decide_eq_true df] at this
      exact this
theorem c_is_pair (T : Tx K mg) : C8.Cal P w K mg base 3 "is_pair" spIsPair [] := by
  have cD := c_are_different (P := P) (w := w) (base := base) T
  obtain ⟨fd, F, b⟩ := T.f_is_pair
  refine ⟨_, fd, _, [], F.ok (k := 2) sc_is_pair (fun vs H Q E h => ?_) (fun cdv A outer s H vs Q E hr h => ?_), T.g_is_pair, F.kp, b, .nil⟩
  · obtain ⟨_, _, _, _, _, rfl, _⟩ := h
    rfl
  · obtain ⟨ap, av, P, x, y, rfl, hp, hv, k⟩ := h
    refine ⟨_, pss_one (ps_ret (pe_and (pe_callB RZ.call_isTy (by rfl) T.b_isinstance (by rfl) (pa_cons (pv 1) (pa_cons (pe_bltn (by rfl) T.b_tuple (by rfl) (rTy _)) pa_nil)))
      (pe_and (pe_cmpR op_eq (pe_callB call_len_seq (by rfl) T.b_len (by rfl) (pa_cons (pv 1) pa_nil)) pe_int rfl) (pe_one (C8.pe_c cD hr (Nat.le_refl _) rfl (pa_cons (pv 0) (pa_cons (pv 1) pa_nil))))))), ?_⟩
    refine ⟨_, rfl, _, _, rfl, .tup hv, true, rfl, iteT ?_⟩
    refine ⟨_, rfl, av, _, rfl, .inr (SqT.of hv), rfl, true, rfl, iteT ?_⟩
    refine ⟨_, rfl, _, rfl, ap, av, P, [x, y], rfl, hp, hv, Nat.le_of_ble_eq_true rfl, fun H' s' => ?_⟩
    have e : decide (Diff P [x, y]) = decide (x ∈ P ∧ y ∈ P ∧ x ≠ y) := by
      refine decide_eq_decide.mpr ⟨fun z => ⟨z.1 x (by simp), z.1 y (by simp), fun w => ?_⟩, fun z => ⟨fun v hv' => ?_, ?_⟩⟩
      · have := z.2
        simp [w] at this
      · rcases List.mem_cons.mp hv' with c | c
        · exact c ▸ z.1
        · exact (List.mem_singleton.mp c) ▸ z.2.1
      · simp [z.2.2]
    rw [e]
    exact k H' s'
end
end G
set_option Elab.async false
set_option linter.all false
set_option maxRecDepth 100000
set_option maxHeartbeats 4000000
namespace G
open PySem PySem.Spec PyProof.Rows L2 GM
def letters : Str := "abcdefghijklmnopqrstuvwxyz"
def Nm (x : Str) : Prop := 1 ≤ x.length ∧ x.length ≤ 8 ∧ ∀ (i c : Nat), x.cps[i]? = some c → c ∈ letters.cps.toList
def GoodP (P : List Str) : Prop := 2 ≤ P.length ∧ P.length ≤ 24 ∧ P.Nodup ∧ ∀ x, x ∈ P → Nm x
def Prs (H : Hp) (xs : List V) (B : List (Str × Str)) : Prop := xs.length = B.length ∧ ∀ (i : Nat) (p : Str × Str), B[i]? = some p → ∃ q, xs[i]? = some (.ref q) ∧ H q = some (.tup [.str p.1, .str p.2])
theorem Prs.same {H H' : Hp} {xs : List V} {B : List (Str × Str)} (h : Prs H xs B) (s : Same H H') : Prs H' xs B := ⟨h.1, fun i p e => let ⟨q, a, c⟩ := h.2 i p e; ⟨q, a, s _ _ c⟩⟩
theorem Prs.at {H : Hp} {xs : List V} {B : List (Str × Str)} (h : Prs H xs B) {i : Nat} {v : V} (e : xs[i]? = some v) : ∃ p q, B[i]? = some p ∧ v = .ref q ∧ H q = some (.tup [.str p.1, .str p.2]) := by
  have il : i < B.length := by
    have := (List.getElem?_eq_some_iff.mp e).1
    rw [h.1] at this
    exact this
  obtain ⟨p, hp⟩ := take_at il
  obtain ⟨q, a, c⟩ := h.2 i p hp
  rw [a] at e
  exact ⟨p, q, hp, (Option.some.inj e).symm, c⟩
def GoodB (P : List Str) (B : List (Str × Str)) : Prop := B.length ≤ 600 ∧ ∀ p, p ∈ B → p.1 ∈ P ∧ p.2 ∈ P ∧ p.1 ≠ p.2
def key2 (x y : Str) : List Key := [.inr x, .inr y]
theorem key2_inj {x y u v : Str} : key2 x y = key2 u v ↔ (x, y) = (u, v) := by
  constructor
  · intro h
    unfold key2 at h
    simp at h
    rw [h.1, h.2]
  · intro h
    have h1 := congrArg Prod.fst h
    have h2 := congrArg Prod.snd h
    rw [show x = u from h1, show y = v from h2]
def PartyAt (C : Addr) (H : Hp) (a : Addr) (P : List Str) (B : List (Str × Str)) : Prop :=
  ∃ (dx ap ac : Addr) (fs : List (Str × V)) (kvs : List (List Key × V)), H a = some (.ins C dx fs) ∧ fs.lookup ("_people" : Str) = some (.ref ap) ∧ fs.lookup ("_closed" : Str) = some (.ref ac) ∧ H ap = some (.tup (txs P)) ∧ H ac = some (.dT kvs) ∧
    (∀ x y, (valV kvs (key2 x y)).isSome = decide ((x, y) ∈ B)) ∧ fs.lookup ("people" : Str) = none ∧ fs.lookup ("may" : Str) = none
theorem PartyAt.same {C : Addr} {H H' : Hp} {a : Addr} {P : List Str} {B : List (Str × Str)} (h : PartyAt C H a P B) (s : Same H H') : PartyAt C H' a P B :=
  let ⟨dx, ap, ac, fs, kvs, h1, h2, h3, h4, h5, h6, h7, h8⟩ := h
  ⟨dx, ap, ac, fs, kvs, s _ _ h1, h2, h3, s _ _ h4, s _ _ h5, h6, h7, h8⟩
def spIsName : Sp := fun vs H Q _ => ∃ x : Str, vs = [.str x] ∧ Nm x ∧ Q (.bl true) H
def spCheckPeople : Sp := fun vs H Q _ => ∃ (ap : Addr) (P : List Str), vs = [.ref ap] ∧ H ap = some (.tup (txs P)) ∧ GoodP P ∧ ∀ H', Same H H' → Q .non H'
def spCheckPairs : Sp := fun vs H Q _ => ∃ (ap ab : Addr) (P : List Str) (rs : List V) (B : List (Str × Str)), vs = [.ref ap, .ref ab] ∧ H ap = some (.tup (txs P)) ∧ H ab = some (.lst rs) ∧ Prs H rs B ∧ GoodB P B ∧ ∀ H', Same H H' → Q .non H'
def spCheckName : Sp := fun vs H Q _ => ∃ (ap : Addr) (P : List Str) (x : Str), vs = [.ref ap, .str x] ∧ H ap = some (.tup (txs P)) ∧ x ∈ P ∧ Q .non H
def spPartyInit (C : Addr) : Sp := fun vs H Q _ => ∃ (a dx ap ab : Addr) (P : List Str) (rs : List V) (B : List (Str × Str)), vs = [.ref a, .ref ap, .ref ab] ∧ H a = some (.ins C dx []) ∧ H ap = some (.tup (txs P)) ∧ H ab = some (.lst rs) ∧ Prs H rs B ∧ GoodP P ∧ GoodB P B ∧
  ∀ H', Kept [a] H H' → PartyAt C H' a P B → Q .non H'
def spPeople (C : Addr) : Sp := fun vs H Q _ => ∃ (a : Addr) (P : List Str) (B : List (Str × Str)), vs = [.ref a] ∧ PartyAt C H a P B ∧ ∀ ap, H ap = some (.tup (txs P)) → Q (.ref ap) H
def spPartyIn (C : Addr) : Sp := fun vs H Q _ => ∃ (a q : Addr) (P : List Str) (B : List (Str × Str)) (x y : Str), vs = [.ref a, .ref q] ∧ PartyAt C H a P B ∧ H q = some (.tup [.str x, .str y]) ∧ ∀ H', Same H H' → Q (.bl (decide (x ∈ P ∧ y ∈ P ∧ x ≠ y) && !decide ((x, y) ∈ B))) H'
def spMay (C : Addr) : Sp := fun vs H Q _ => ∃ (a : Addr) (P : List Str) (B : List (Str × Str)) (g : Str), vs = [.ref a, .str g] ∧ PartyAt C H a P B ∧ g ∈ P ∧ P.length ≤ 24 ∧ ∀ (H' : Hp) (p : Addr), Same H H' → H p = none → H' p = some (.lst (txs (mayl P B g))) → Q (.ref p) H'
section
variable {P : Program} {w : World} {K : PySem.W.Frag} {mg : Str → Option Value} {base : Heap}
theorem c_is_name (T : Tx K mg) : C8.Cal P w K mg base 1 "is_name" spIsName [] := by
  obtain ⟨tk, eL⟩ := T.t_LETTERS
  obtain ⟨fd, F, b⟩ := T.f_is_name
  refine ⟨_, fd, _, [], F.ok (k := 0) sc_is_name (fun vs H Q E h => ?_) (fun cdv A outer s H vs Q E hr h => ?_), T.g_is_name, F.kp, b, .nil⟩
  · obtain ⟨_, rfl, _⟩ := h
    rfl
  · obtain ⟨x, rfl, nm, k⟩ := h
    refine ⟨_, pss_cons (ps_if (PW.pt (pw_or (pt_not (pt_val (pe_callB RZ.call_isTy (by rfl) T.b_isinstance (by rfl) (pa_cons (pv 0) (pa_cons (pe_bltn (by rfl) T.b_str (by rfl) (rTy _)) pa_nil)))))
        (pw_or1 (pt_not (pt_chain op_le op_le pe_int (pe_callB call_len_str (by rfl) T.b_len (by rfl) (pa_cons (pv 0) pa_nil)) pe_int))))) (pss_one ps_never) pss_nil)
      (pss_cons (ps_for PassesOwn.never rfl (pi_str (pv 0)) (pg_name (i := 1) sc_is_name.nd rfl (.inl rfl))
        (pss_one (ps_if (pt_cmpR op_notIn_sign (pv 1) (pe_glob (v := .str letters) (by rfl) eL ⟨tk, rfl⟩) rfl) (pss_one ps_never) pss_nil)))
      (pss_one (ps_ret pe_bl))), ?_⟩
    have l8 : x.length ≤ sizeLine := small1000 (by have := nm.2.1; omega) |> Nat.le_of_lt
    refine ⟨_, rfl, _, _, rfl, .str x, true, rfl, iteF ?_⟩
    refine ⟨_, rfl, x, rfl, l8, _, _, rfl, rfl, true, congrArg V.bl (decide_eq_true (by have := nm.1; omega)), iteT ⟨_, _, rfl, rfl, true, congrArg V.bl (decide_eq_true (by have := nm.2.1; omega)), ?_⟩⟩
    refine iteF ⟨_, rfl, x, rfl, ?_⟩
    refine for_it walk_str (fun i σ H1 => H1 = H ∧ ∃ v1 : Option V, σ = [some (.str x), v1]) ⟨rfl, _, rfl⟩ (fun _ _ _ _ _ => trivial) ?_ ?_
    · rintro i v σ H1 H2 hi ⟨rfl, v1, rfl⟩ ⟨rfl, c, hc, rfl⟩
      refine ⟨_, rfl, c, letters, rfl, rfl, false, congrArg V.bl ?_, iteF ⟨rfl, _, rfl⟩⟩
      rw [decide_eq_true (nm.2.2 i c hc)] <;> rfl
    · rintro σ H1 ⟨rfl, v1, rfl⟩
      exact k
theorem c_check_name (T : Tx K mg) : C8.Cal P w K mg base 2 "check_name" spCheckName [] := by
  have cP := c_is_person (P := P) (w := w) (base := base) T
  obtain ⟨fd, F, b⟩ := T.f_check_name
  refine ⟨_, fd, _, [], F.ok (k := 1) sc_check_name (fun vs H Q E h => ?_) (fun cdv A outer s H vs Q E hr h => ?_), T.g_check_name, F.kp, b, .nil⟩
  · obtain ⟨_, _, _, rfl, _⟩ := h
    rfl
  · obtain ⟨ap, P, x, rfl, hp, hx, k⟩ := h
    refine ⟨_, pss_one (ps_if (pt_not (pt_val (C8.pe_c cP hr (Nat.le_refl _) rfl (pa_cons (pv 0) (pa_cons (pv 1) pa_nil))))) (pss_one ps_never) pss_nil), ?_⟩
    refine ⟨_, rfl, _, rfl, ap, P, x, rfl, hp, true, congrArg V.bl (decide_eq_true hx), iteF k⟩
theorem c_check_people (T : Tx K mg) : C8.Cal P w K mg base 2 "check_people" spCheckPeople [] := by
  have cN := c_is_name (P := P) (w := w) (base := base) T
  obtain ⟨tk, eM⟩ := T.i_MOST_PEOPLE
  obtain ⟨fd, F, b⟩ := T.f_check_people
  refine ⟨_, fd, _, [], F.ok (k := 1) sc_check_people (fun vs H Q E h => ?_) (fun cdv A outer s H vs Q E hr h => ?_), T.g_check_people, F.kp, b, .nil⟩
  · obtain ⟨_, _, rfl, _⟩ := h
    rfl
  · obtain ⟨ap, P, rfl, hp, gp, k⟩ := h
    obtain ⟨g1, g2, nd, gn⟩ := gp
    refine ⟨_, pss_cons (ps_if (PW.pt (pw_or (pt_not (pt_val (pe_callB RZ.call_isTy (by rfl) T.b_isinstance (by rfl) (pa_cons (pv 0) (pa_cons (pe_bltn (by rfl) T.b_tuple (by rfl) (rTy _)) pa_nil)))))
        (pw_or1 (pt_not (pt_chain op_le op_le pe_int (pe_callB call_len_seq (by rfl) T.b_len (by rfl) (pa_cons (pv 0) pa_nil)) (pe_glob (v := .int 24) (by rfl) eM ⟨tk, rfl⟩)))))) (pss_one ps_never) pss_nil)
      (pss_one (ps_for PassesOwn.never rfl (pi_enumT (by rfl) T.b_enumerate (pa_cons (pv 0) pa_nil)) (pg_tup rfl (pgs_cons (pg_name (i := 1) sc_check_people.nd rfl (.inl rfl)) (pgs_cons (pg_name (i := 2) sc_check_people.nd rfl (.inl rfl)) pgs_nil)))
        (pss_one (ps_if (PW.pt (pw_or (pt_not (pt_val (C8.pe_c cN hr (Nat.le_refl _) rfl (pa_cons (pv 2) pa_nil)))) (pw_or1 (pt_cmpR op_in_seq (pv 2) (pe_slice sl_tup (pv 0) po_none (po_some (pv 1))) rfl))))
          (pss_one ps_never) pss_nil)))), ?_⟩
    refine ⟨_, rfl, _, _, rfl, .tup hp, true, rfl, iteF ?_⟩
    refine ⟨_, rfl, ap, _, rfl, .inr (SqT.of hp), _, _, rfl, rfl, true, congrArg V.bl (decide_eq_true (by rw [txs_len]; omega)), iteT ⟨_, _, rfl, rfl, true, congrArg V.bl (decide_eq_true (by rw [txs_len]; omega)), ?_⟩⟩
    refine iteF ⟨_, rfl, ap, txs P, rfl, SqT.of hp, ?_⟩
    refine for_it walk_enumT (fun i σ H1 => ∃ v2 v3 : Option V, σ = [some (.ref ap), v2, v3] ∧ Same H H1) ⟨none, none, rfl, fun _ _ e => e⟩
      (fun i σ H1 _ p => by obtain ⟨_, _, _, s1⟩ := p; exact SqT.of (s1 _ _ hp)) ?_ ?_
    · rintro i x σ H1 H2 hi ⟨v2, v3, rfl, s1⟩ ⟨t, a1, a2, rfl, nt, rfl, e1, e2⟩
      cases e1
      obtain ⟨y, hy, rfl⟩ := txs_get e2
      have s2 : Same H1 (upd H1 t (.tup [.int (i : Nat), .str y])) := same_new nt
      have S2 := s1.trans s2
      refine ⟨t, _, rfl, SqT.of upd_same, rfl, _, _, rfl, _, _, rfl, rfl, ?_⟩
      generalize upd H1 t (.tup [.int (i : Nat), .str y]) = H3 at S2 ⊢
      refine ⟨_, rfl, y, rfl, gn y (mem_at hy), true, rfl, iteF ?_⟩
      have il : i < P.length := (List.getElem?_eq_some_iff.mp hy).1
      refine ⟨_, rfl, _, rfl, _, rfl, _, rfl, ap, txs P, rfl, SqT.of (S2 _ _ hp), ?_, fun q nq => ?_⟩
      · intro z
        have z2 := z.2
        rw [HT.sIx_nat, txs_len] at z2
        omega
      · rw [cut_take (by rw [txs_len]; omega), txs_take]
        refine ⟨q, _, rfl, .inr (SqT.of upd_same), rfl, flat_txs _, false, ?_, iteF ⟨_, _, rfl, S2.trans (same_new nq)⟩⟩
        rw [inV_txs, decide_eq_false (not_mem_take nd hy)] <;> rfl
    · rintro σ H1 ⟨v2, v3, rfl, s1⟩
      exact k _ s1
theorem c_check_pairs (T : Tx K mg) : C8.Cal P w K mg base 4 "check_pairs" spCheckPairs [] := by
  have cP := c_is_pair (P := P) (w := w) (base := base) T
  obtain ⟨tk, eM⟩ := T.i_MOST_BARRED
  obtain ⟨fd, F, b⟩ := T.f_check_pairs
  refine ⟨_, fd, _, [], F.ok (k := 3) sc_check_pairs (fun vs H Q E h => ?_) (fun cdv A outer s H vs Q E hr h => ?_), T.g_check_pairs, F.kp, b, .nil⟩
  · obtain ⟨_, _, _, _, _, rfl, _⟩ := h
    rfl
  · obtain ⟨ap, ab, P, rs, B, rfl, hp, hb, pr, gb, k⟩ := h
    refine ⟨_, pss_cons (ps_if (PW.pt (pw_or (pt_not (pt_val (pe_callB RZ.call_isTy (by rfl) T.b_isinstance (by rfl) (pa_cons (pv 1) (pa_cons (pe_bltn (by rfl) T.b_list (by rfl) (rTy _)) pa_nil)))))
        (pw_or1 (pt_cmpR op_gt (pe_callB call_len_seq (by rfl) T.b_len (by rfl) (pa_cons (pv 1) pa_nil)) (pe_glob (v := .int 600) (by rfl) eM ⟨tk, rfl⟩) rfl)))) (pss_one ps_never) pss_nil)
      (pss_one (ps_for PassesOwn.never rfl (pi_enum (by rfl) T.b_enumerate (pa_cons (pv 1) pa_nil)) (pg_tup rfl (pgs_cons (pg_name (i := 2) sc_check_pairs.nd rfl (.inl rfl)) (pgs_cons (pg_name (i := 3) sc_check_pairs.nd rfl (.inl rfl)) pgs_nil)))
        (pss_one (ps_if (pt_not (pt_val (C8.pe_c cP hr (Nat.le_refl _) rfl (pa_cons (pv 0) (pa_cons (pv 3) pa_nil))))) (pss_one ps_never) pss_nil)))), ?_⟩
    refine ⟨_, rfl, _, _, rfl, .lst hb, true, rfl, iteF ?_⟩
    refine ⟨_, rfl, ab, rs, rfl, .inl (SqL.of hb), _, _, rfl, rfl, false, congrArg V.bl (decide_eq_false (by rw [pr.1]; have := gb.1; omega)), iteF ?_⟩
    refine ⟨_, rfl, ab, rs, rfl, SqL.of hb, ?_⟩
    refine for_it walk_enum (fun i σ H1 => ∃ v2 v3 : Option V, σ = [some (.ref ap), some (.ref ab), v2, v3] ∧ Same H H1) ⟨none, none, rfl, fun _ _ e => e⟩
      (fun i σ H1 _ p => by obtain ⟨_, _, _, s1⟩ := p; exact SqL.of (s1 _ _ hb)) ?_ ?_
    · rintro i x σ H1 H2 hi ⟨v2, v3, rfl, s1⟩ ⟨t, a1, a2, rfl, nt, rfl, e1, e2⟩
      cases e1
      obtain ⟨p, q, hp1, rfl, hq⟩ := (pr.same s1).at e2
      have s2 : Same H1 (upd H1 t (.tup [.int (i : Nat), .ref q])) := same_new nt
      have S2 := s1.trans s2
      refine ⟨t, _, rfl, SqT.of upd_same, rfl, _, _, rfl, _, _, rfl, rfl, ?_⟩
      have hq2 := s2 _ _ hq
      generalize upd H1 t (.tup [.int (i : Nat), .ref q]) = H3 at S2 hq2 ⊢
      refine ⟨_, rfl, _, rfl, ap, q, P, p.1, p.2, rfl, S2 _ _ hp, hq2, fun H4 s4 => ?_⟩
      exact ⟨true, congrArg V.bl (decide_eq_true (gb.2 p (mem_at hp1))), iteF ⟨_, _, rfl, S2.trans s4⟩⟩
    · rintro σ H1 ⟨v2, v3, rfl, s1⟩
      exact k _ s1
end
end G
set_option Elab.async false
set_option linter.all false
set_option maxRecDepth 100000
set_option maxHeartbeats 4000000
namespace G
open PySem PySem.Spec PyProof.Rows L2 GM
abbrev CP (K : PySem.W.Frag) : Addr := He.ga K "Party"
theorem dg_it {J : It} {n : Nat} {G : Hp → Prop} {Y : Nat → Hp → V → Hp → Prop} (w : Walk J n G Y) {t : Bool} {g : TG} {tt : TT} {tk tv : TE} {vs : List Nat} {σ : L2.St} {H1 : Hp} {D : Addr} {Qd : Hp → Prop} (Pv : Nat → Hp → Prop) (h0 : Pv 0 (upd H1 D (newD t))) (hG : ∀ i H, i ≤ n → Pv i H → G H)
    (hs : ∀ i x H H', i < n → Pv i H → Y i H x H' → g x (wipe σ vs) H' fun σ2 H2 => wipe σ2 vs = wipe σ vs ∧ tt σ2 H2 fun b H3 =>
      if b = true then tk σ2 H3 fun y H4 => tv σ2 H4 fun z H5 => ∃ H6, DPut H5 D y z H6 ∧ Pv (i + 1) H6 else Pv (i + 1) H3) (hd : ∀ H, Pv n H → Qd H) :
    ∃ W : Nat → Nat → Hp → Prop, (∃ m, W 0 m (upd H1 D (newD t))) ∧ ∀ i m H, W i m H →
      (J.stop i H ∧ Qd H) ∨ (J.go i H ∧ ∃ Nx : Hp → Prop, (∀ H', Nx H' → ∃ m', m' < m ∧ W (i + 1) m' H') ∧ ∀ x H', J.yld i H x H' → g x (wipe σ vs) H' fun σ2 H2 => wipe σ2 vs = wipe σ vs ∧ tt σ2 H2 fun b H3 =>
        if b = true then tk σ2 H3 fun y H4 => tv σ2 H4 fun z H5 => ∃ H6, DPut H5 D y z H6 ∧ Nx H6 else Nx H3) :=
  dg_turns n Pv h0 (fun i H hi p => w.goes i H hi (hG i H (Nat.le_of_lt hi) p)) (fun H p => w.stops H (hG n H (Nat.le_refl _) p)) (fun i H hi p x H' y => hs i x H H' hi p (w.yields i H x H' hi (hG i H (Nat.le_of_lt hi) p) y)) hd
section
variable {P : Program} {w : World} {K : PySem.W.Frag} {mg : Str → Option Value} {base : Heap}
theorem c_people (T : Tx K mg) : C8.Met P w K mg base 1 (CP K) "people" (spPeople (CP K)) [] := by
  obtain ⟨fd, F, b⟩ := T.f_Party_people
  refine ⟨_, fd, _, [], T.c_Party, T.m_Party_people, F.ok (k := 0) sc_Party_people (fun vs H Q E h => ?_) (fun cdv A outer s H vs Q E hr h => ?_), b, .nil⟩
  · obtain ⟨_, _, _, rfl, _⟩ := h
    rfl
  · obtain ⟨a, P, B, rfl, pa, k⟩ := h
    refine ⟨_, pss_one (ps_ret (pe_fld (pv 0) rfl)), ?_⟩
    obtain ⟨dx, ap, ac, fs, kvs, h1, h2, h3, h4, h5, h6, h7⟩ := pa
    exact ⟨_, rfl, a, _, dx, fs, _, rfl, h1, T.c_Party, T.n_Party_people, h2, k ap h4⟩
theorem c_partyIn (T : Tx K mg) : ∃ fd, FnOk P w K mg base C8.CX0 4 (He.ma K (CP K) "__contains__") fd ["self", "pair"] (spPartyIn (CP K)) ∧ Binds K fd ["self", "pair"] [] := by
  have cP := c_is_pair (P := P) (w := w) (base := base) T
  obtain ⟨fd, F, b⟩ := T.f_Party_In
  refine ⟨fd, F.ok (k := 3) sc_Party_In (fun vs H Q E h => ?_) (fun cdv A outer s H vs Q E hr h => ?_), b⟩
  · obtain ⟨_, _, _, _, _, _, rfl, _⟩ := h
    rfl
  · obtain ⟨a, q, P, B, x, y, rfl, pa, hq, k⟩ := h
    have hu := hu_of hr
    refine ⟨_, pss_one (ps_ret (pe_and (C8.pe_c cP hr (Nat.le_refl _) rfl (pa_cons (pe_fld (pv 0) rfl) (pa_cons (pv 1) pa_nil))) (pe_one (pe_cmp (pc_dnotin hu (pv 1) (pe_fld (pv 0) rfl)))))), ?_⟩
    obtain ⟨dx, ap, ac, fs, kvs, h1, h2, h3, h4, h5, h6, h7⟩ := id pa
    refine ⟨_, rfl, a, _, dx, fs, _, rfl, h1, T.c_Party, T.n_Party_people, h2, _, rfl, ap, q, P, x, y, rfl, h4, hq, fun H1 s1 => ?_⟩
    by_cases c : x ∈ P ∧ y ∈ P ∧ x ≠ y
    · refine ⟨true, congrArg V.bl (decide_eq_true c), iteT ?_⟩
      have k1 := k H1 s1
      rw [decide_eq_true c, Bool.true_and] at k1
      refine ⟨_, rfl, _, rfl, a, _, dx, fs, _, rfl, s1 _ _ h1, T.c_Party, T.n_Party_closed, h3, ac, _, rfl, DGet.t (k := key2 x y) (s1 _ _ h5) (s1 _ _ hq), ?_⟩
      rw [h6 x y]
      exact k1
    · refine ⟨false, congrArg V.bl (decide_eq_false c), iteF ?_⟩
      have k1 := k H1 s1
      rw [decide_eq_false c, Bool.false_and] at k1
      exact k1
theorem c_may (T : Tx K mg) : C8.Met P w K mg base 5 (CP K) "may" (spMay (CP K)) [] := by
  have cN := c_check_name (P := P) (w := w) (base := base) T
  obtain ⟨fdI, FI, bI⟩ := c_partyIn (P := P) (w := w) (base := base) T
  obtain ⟨fd, F, b⟩ := T.f_Party_may
  refine ⟨_, fd, _, [], T.c_Party, T.m_Party_may, F.ok (k := 4) sc_Party_may (fun vs H Q E h => ?_) (fun cdv A outer s H vs Q E hr h => ?_), b, .nil⟩
  · obtain ⟨_, _, _, _, rfl, _⟩ := h
    rfl
  · obtain ⟨a, P, B, g, rfl, pa, hg, hl, k⟩ := h
    refine ⟨_, pss_cons (ps_expr (C8.pe_c cN hr (by decide) rfl (pa_cons (pe_fld (pv 0) rfl) (pa_cons (pv 1) pa_nil))))
      (pss_one (ps_ret (pe_callB cr_sortedS (by rfl) T.b_sorted (by rfl) (pa_cons (pe_lc rfl sc_Party_may.nd (pi_tup (pe_fld (pv 0) rfl)) (blkOk_by (own := [("taker", 2)]) (N := N_Party_may) (sc := defScope sParty_may) (by decide +kernel))
        (fun _ _ _ _ _ => pg_name (i := 2) sc_Party_may.nd rfl (Or.inl rfl)) (fun _ _ _ _ _ => pts_one (pt_cmpR (op_ownIn T.m_Party_In FI hr bI pass0) (pe_tup (pa_cons (pv 1) (pa_cons (pv 2) pa_nil))) (pv 0) rfl)) (fun _ _ _ _ _ => pv 2)) pa_nil)))), ?_⟩
    obtain ⟨dx, ap, ac, fs, kvs, h1, h2, h3, h4, h5, h6, h7⟩ := id pa
    refine ⟨_, rfl, a, _, dx, fs, _, rfl, h1, T.c_Party, T.n_Party_people, h2, _, rfl, ap, P, g, rfl, h4, hg, ?_⟩
    refine ⟨_, rfl, a, _, dx, fs, _, rfl, h1, T.c_Party, T.n_Party_people, h2, ap, rfl, ⟨_, SqT.of h4⟩, fun D nD => ?_⟩
    refine lc_keep walk_tup (k := 2) (onT fun t => (decide (g ∈ P ∧ t ∈ P ∧ g ≠ t) && !decide ((g, t) ∈ B))) (fun H' s' => SqT.of (s' _ _ h4)) nD (txs_lt hl) (fun _ => rfl) (fun _ => rfl) (fun i x H1 hx s1 C hC => ?_) (fun H2 s2 e2 => ?_)
    · obtain ⟨t, ht, rfl⟩ := txs_get hx
      refine ⟨_, rfl, _, rfl, (by decide : 2 ≤ sizeLine), fun q nq => ?_⟩
      have s3 := same_new (o := .tup [.str g, .str t]) nq
      refine ⟨_, rfl, a, dx, fs, rfl, s3 _ _ (s1 _ _ h1), a, q, P, B, g, t, rfl, (pa.same s1).same s3, upd_same, fun H4 s4 => ⟨_, rfl, _, rfl, hC H4 (s3.trans s4)⟩⟩
    · have e3 : (txs P).filter (onT fun t => (decide (g ∈ P ∧ t ∈ P ∧ g ≠ t) && !decide ((g, t) ∈ B))) = txs (P.filter (freeB B g)) := by
        rw [txs_filter]
        congr 1
        refine List.filter_congr fun t ht => ?_
        show (decide (g ∈ P ∧ t ∈ P ∧ g ≠ t) && !decide ((g, t) ∈ B)) = (!decide (g = t) && !decide ((g, t) ∈ B))
        congr 1
        by_cases c : g = t
        · rw [decide_eq_true c, decide_eq_false (fun z => z.2.2 c)] <;> rfl
        · rw [decide_eq_false c, decide_eq_true ⟨hg, ht, c⟩] <;> rfl
      rw [e3] at e2
      refine ⟨D, P.filter (freeB B g), rfl, SqL.of e2, ?_, fun ys p py sy np => ?_⟩
      · have := List.length_filter_le (freeB B g) P
        omega
      · have ey : ys = mayl P B g := srt_eq py sy
        rw [ey]
        exact k _ p (s2.trans (same_new np)) (s2.free np) upd_same
theorem c_partyInit (T : Tx K mg) : C8.Mak P w K mg base 5 "Party" (CP K) (spPartyInit (CP K)) [] := by
  have cQ := c_check_people (P := P) (w := w) (base := base) T
  have cR := c_check_pairs (P := P) (w := w) (base := base) T
  obtain ⟨fd, F, b⟩ := T.f_Party_Init
  refine ⟨_, fd, _, [], T.k_Party, F.ok (k := 4) sc_Party_Init (fun vs H Q E h => ?_) (fun cdv A outer s H vs Q E hr h => ?_), T.g_Party, b, .nil⟩
  · obtain ⟨_, _, _, _, _, _, _, rfl, _⟩ := h
    rfl
  · obtain ⟨a, dx, ap, ab, P, rs, B, rfl, ha, hp, hb, pr, gp, gb, k⟩ := h
    have hu := hu_of hr
    refine ⟨_, pss_cons (ps_expr (C8.pe_c cQ hr (by decide) rfl (pa_cons (pv 1) pa_nil)))
      (pss_cons (ps_expr (C8.pe_c cR hr (by decide) rfl (pa_cons (pv 1) (pa_cons (pv 2) pa_nil))))
      (pss_cons (ps_fld (pv 0) (pv 1) rfl)
      (pss_one (ps_fld (pv 0) (pe_dg true (Nat.lt_of_succ_lt hu) rfl sc_Party_Init.nd (pi_list (pv 2)) (blkOk_by (own := [("pair", 3)]) (N := N_Party_Init) (sc := defScope sParty_Init) (by decide +kernel))
        (fun _ _ _ _ _ => pg_name (i := 3) sc_Party_Init.nd rfl (Or.inl rfl)) (fun _ _ _ _ _ => pts_nil) (fun _ _ _ _ _ => pv 3) (fun _ _ _ _ _ => pe_bl)) rfl)))), ?_⟩
    refine ⟨_, rfl, ap, P, rfl, hp, gp, fun H1 s1 => ?_⟩
    refine ⟨_, rfl, _, rfl, ap, ab, P, rs, B, rfl, s1 _ _ hp, s1 _ _ hb, pr.same s1, gb, fun H2 s2 => ?_⟩
    have S2 := s1.trans s2
    refine ⟨_, rfl, _, rfl, a, _, dx, _, rfl, S2 _ _ ha, T.c_Party, T.n_Party_people, by decide, ?_⟩
    have ne : ∀ {b : Addr} {o : HO}, H b = some o → (∀ fs, o ≠ .ins (CP K) dx fs) → b ≠ a := fun {b o} e n z => by
      rw [z, ha] at e
      exact n [] (Option.some.inj e).symm
    have hb3 : upd H2 a (.ins (CP K) dx (putF "_people" (.ref ap) [])) ab = some (.lst rs) := by rw [upd_ne (ne hb (fun _ z => by cases z))]; exact S2 _ _ hb
    have hp3 : upd H2 a (.ins (CP K) dx (putF "_people" (.ref ap) [])) ap = some (.tup (txs P)) := by rw [upd_ne (ne hp (fun _ z => by cases z))]; exact S2 _ _ hp
    have pr3 : Prs (upd H2 a (.ins (CP K) dx (putF "_people" (.ref ap) []))) rs B := ⟨pr.1, fun i p e => by
      obtain ⟨q, e1, e2⟩ := pr.2 i p e
      exact ⟨q, e1, by rw [upd_ne (ne e2 (fun _ z => by cases z))]; exact S2 _ _ e2⟩⟩
    have ha3 : upd H2 a (.ins (CP K) dx (putF "_people" (.ref ap) [])) a = some (.ins (CP K) dx (putF "_people" (.ref ap) [])) := upd_same
    have K3 : Kept [a] H (upd H2 a (.ins (CP K) dx (putF "_people" (.ref ap) []))) := (S2.kept [a]).trans (kept_upd (by simp))
    generalize upd H2 a (.ins (CP K) dx (putF "_people" (.ref ap) [])) = H3 at hb3 hp3 pr3 ha3 K3 ⊢
    refine ⟨_, rfl, ab, rfl, ⟨_, SqL.of hb3⟩, fun D nD => ?_⟩
    refine dg_it (t := true) (walk_list (xs := rs)) (fun i H4 => Same H3 H4 ∧ ∃ kvs : List (List Key × V), H4 D = some (.dT kvs) ∧ kvs.length ≤ i ∧ ∀ x y, (valV kvs (key2 x y)).isSome = decide ((x, y) ∈ B.take i)) ⟨same_new nD, [], upd_same, Nat.le_refl _, fun x y => by simp [valV_nil]⟩
      (fun i H4 _ p => SqL.of (p.1 _ _ hb3)) ?_ ?_
    · rintro i v H4 H5 hi ⟨s4, kvs, e4, l4, m4⟩ ⟨rfl, hv⟩
      obtain ⟨p, q, hp1, rfl, hq⟩ := (pr3.same s4).at hv
      refine ⟨rfl, ?_⟩
      have lB : i < B.length := (List.getElem?_eq_some_iff.mp hp1).1
      refine ⟨_, rfl, _, DPut.t (k := key2 p.1 p.2) e4 hq (small1000 (by have := gb.1; omega)), s4.put nD, _, upd_same, ?_, fun x y => ?_⟩
      · have := length_putK kvs (key2 p.1 p.2) (V.bl true)
        omega
      · rw [valV_put]
        by_cases c : key2 x y = key2 p.1 p.2
        · rw [if_pos c]
          have c2 := key2_inj.mp c
          rw [take_next hp1, decide_eq_true (show (x, y) ∈ B.take i ++ [p] by rw [c2]; simp)] <;> rfl
        · rw [if_neg c, m4]
          refine decide_eq_decide.mpr ⟨fun z => ?_, fun z => ?_⟩
          · rw [take_next hp1]; exact List.mem_append_left _ z
          · rw [take_next hp1] at z
            rcases List.mem_append.mp z with z | z
            · exact z
            · exact absurd (key2_inj.mpr (List.mem_singleton.mp z)) c
    · rintro H4 ⟨s4, kvs, e4, l4, m4⟩
      rw [pr3.1, List.take_length] at m4
      refine ⟨_, rfl, a, _, dx, _, rfl, s4 _ _ ha3, T.c_Party, T.n_Party_closed, (by decide : 1 < 1000), ?_⟩
      refine k _ ((K3.trans (s4.kept [a])).trans (kept_upd (by simp))) ⟨dx, ap, D, _, kvs, upd_same, rfl, rfl, ?_, ?_, m4, rfl, rfl⟩
      · rw [upd_ne (ne_of (s4 _ _ hp3) (s4 _ _ ha3) (by intro z; cases z))]; exact s4 _ _ hp3
      · rw [upd_ne (ne_of e4 (s4 _ _ ha3) (by intro z; cases z))]; exact e4
end
end G
set_option Elab.async false
set_option linter.all false
set_option maxRecDepth 100000
set_option maxHeartbeats 4000000
namespace G
open PySem PySem.Spec PyProof.Rows L2 GM
inductive Leak where
  | nt (a b : Str)
  | ths (a b : Str)
  | one (a : Str) (L : List Str)
  | frm (b : Str) (L : List Str)
  | lot (L M : List Str)
  | nvr (L M : List Str)
def letB : Leak → Str → Str → Bool
  | .nt a b, g, t => !decide (g = a) || !decide (t = b)
  | .ths a b, g, t => decide (decide (g = a) = decide (t = b))
  | .one a L, g, t => !decide (g = a) || decide (t ∈ L)
  | .frm b L, g, t => !decide (t = b) || decide (g ∈ L)
  | .lot L M, g, t => !decide (g ∈ L) || decide (t ∈ M)
  | .nvr L M, g, t => !decide (g ∈ L) || !decide (t ∈ M)
def TupS (H : Hp) (v : V) (L : List Str) : Prop := ∃ l, v = .ref l ∧ H l = some (.tup (txs L))
def LeakAt (H : Hp) (q : Addr) : Leak → Prop
  | .nt a b => H q = some (.tup [.str "not", .str a, .str b])
  | .ths a b => H q = some (.tup [.str "this", .str a, .str b])
  | .one a L => ∃ v, H q = some (.tup [.str "one", .str a, v]) ∧ TupS H v L
  | .frm b L => ∃ v, H q = some (.tup [.str "from", .str b, v]) ∧ TupS H v L
  | .lot L M => ∃ u v, H q = some (.tup [.str "lot", u, v]) ∧ TupS H u L ∧ TupS H v M
  | .nvr L M => ∃ u v, H q = some (.tup [.str "never", u, v]) ∧ TupS H u L ∧ TupS H v M
theorem TupS.same {H H' : Hp} {v : V} {L : List Str} (h : TupS H v L) (s : Same H H') : TupS H' v L := let ⟨l, e, q⟩ := h; ⟨l, e, s _ _ q⟩
theorem LeakAt.same {H H' : Hp} {q : Addr} (s : Same H H') : ∀ {k : Leak}, LeakAt H q k → LeakAt H' q k
  | .nt _ _, h => s _ _ h
  | .ths _ _, h => s _ _ h
  | .one _ _, ⟨v, h, t⟩ => ⟨v, s _ _ h, t.same s⟩
  | .frm _ _, ⟨v, h, t⟩ => ⟨v, s _ _ h, t.same s⟩
  | .lot _ _, ⟨u, v, h, t, r⟩ => ⟨u, v, s _ _ h, t.same s, r.same s⟩
  | .nvr _ _, ⟨u, v, h, t, r⟩ => ⟨u, v, s _ _ h, t.same s, r.same s⟩
theorem LeakAt.tup {H : Hp} {q : Addr} : ∀ {k : Leak}, LeakAt H q k → ∃ (x : Str) (u v : V), H q = some (.tup [.str x, u, v])
  | .nt _ _, h => ⟨_, _, _, h⟩
  | .ths _ _, h => ⟨_, _, _, h⟩
  | .one _ _, ⟨v, h, t⟩ => ⟨_, _, _, h⟩
  | .frm _ _, ⟨v, h, t⟩ => ⟨_, _, _, h⟩
  | .lot _ _, ⟨u, v, h, t, r⟩ => ⟨_, _, _, h⟩
  | .nvr _ _, ⟨u, v, h, t, r⟩ => ⟨_, _, _, h⟩
def Lot (P L : List Str) : Prop := L ≠ [] ∧ L.length ≤ 24 ∧ Diff P L
def GoodL (P : List Str) : Leak → Prop
  | .nt a b => a ∈ P ∧ b ∈ P ∧ a ≠ b
  | .ths a b => a ∈ P ∧ b ∈ P ∧ a ≠ b
  | .one a L => a ∈ P ∧ Lot P L
  | .frm b L => b ∈ P ∧ Lot P L
  | .lot L M => Lot P L ∧ Lot P M
  | .nvr L M => Lot P L ∧ Lot P M
def spIsLot : Sp := fun vs H Q _ => ∃ (ap : Addr) (v : V) (P L : List Str), vs = [.ref ap, v] ∧ H ap = some (.tup (txs P)) ∧ TupS H v L ∧ Lot P L ∧ ∀ H', Same H H' → Q (.bl true) H'
def spIsLeak : Sp := fun vs H Q _ => ∃ (ap q : Addr) (P : List Str) (k : Leak), vs = [.ref ap, .ref q] ∧ H ap = some (.tup (txs P)) ∧ LeakAt H q k ∧ GoodL P k ∧ ∀ H', Same H H' → Q (.bl true) H'
def spLets : Sp := fun vs H Q _ => ∃ (q : Addr) (k : Leak) (g t : Str), vs = [.ref q, .str g, .str t] ∧ LeakAt H q k ∧ Q (.bl (letB k g t)) H
section
variable {P : Program} {w : World} {K : PySem.W.Frag} {mg : Str → Option Value} {base : Heap}
theorem c_is_lot (T : Tx K mg) : C8.Cal P w K mg base 3 "is_lot" spIsLot [] := by
  have cD := c_are_different (P := P) (w := w) (base := base) T
  obtain ⟨fd, F, b⟩ := T.f_is_lot
  refine ⟨_, fd, _, [], F.ok (k := 2) sc_is_lot (fun vs H Q E h => ?_) (fun cdv A outer s H vs Q E hr h => ?_), T.g_is_lot, F.kp, b, .nil⟩
  · obtain ⟨_, _, _, _, rfl, _⟩ := h
    rfl
  · obtain ⟨ap, v, P, L, rfl, hp, ⟨l, rfl, hv⟩, ⟨l1, l2, l3⟩, k⟩ := h
    refine ⟨_, pss_one (ps_ret (pe_and (pe_callB RZ.call_isTy (by rfl) T.b_isinstance (by rfl) (pa_cons (pv 1) (pa_cons (pe_bltn (by rfl) T.b_tuple (by rfl) (rTy _)) pa_nil)))
      (pe_and (pe_cmpR op_ge (pe_callB call_len_seq (by rfl) T.b_len (by rfl) (pa_cons (pv 1) pa_nil)) pe_int rfl) (pe_one (C8.pe_c cD hr (Nat.le_refl _) rfl (pa_cons (pv 0) (pa_cons (pv 1) pa_nil))))))), ?_⟩
    refine ⟨_, rfl, _, _, rfl, .tup hv, true, rfl, iteT ?_⟩
    have hl := List.length_pos_iff.mpr l1
    refine ⟨_, rfl, l, _, rfl, .inr (SqT.of hv), _, _, rfl, rfl, true, congrArg V.bl (decide_eq_true (by rw [txs_len]; omega)), iteT ?_⟩
    refine ⟨_, rfl, _, rfl, ap, l, P, L, rfl, hp, hv, l2, fun H' s' => ?_⟩
    have := k H' s'
    rw [decide_eq_true l3]
    exact this
theorem c_lets (T : Tx K mg) : C8.Cal P w K mg base 1 "lets" spLets [] := by
  obtain ⟨fd, F, b⟩ := T.f_lets
  refine ⟨_, fd, _, [], F.ok (k := 0) sc_lets (fun vs H Q E h => ?_) (fun cdv A outer s H vs Q E hr h => ?_), T.g_lets, F.kp, b, .nil⟩
  · obtain ⟨_, _, _, _, rfl, _⟩ := h
    rfl
  · obtain ⟨q, kk, g, t, rfl, hk, k⟩ := h
    refine ⟨_, pss_cons (ps_asg (pv 0) (pg_tup rfl (pgs_cons (pg_name (i := 3) sc_lets.nd rfl (.inl rfl)) (pgs_cons (pg_name (i := 4) sc_lets.nd rfl (.inl rfl)) (pgs_cons (pg_name (i := 5) sc_lets.nd rfl (.inl rfl)) pgs_nil)))))
      (pss_cons (ps_if (pt_cmpR op_eq (pv 3) pe_str rfl) (pss_one (ps_ret (pe_or (pe_cmpR op_ne (pv 1) (pv 4) rfl) (pe_one (pe_cmpR op_ne (pv 2) (pv 5) rfl))))) pss_nil)
      (pss_cons (ps_if (pt_cmpR op_eq (pv 3) pe_str rfl) (pss_one (ps_ret (pe_cmpR op_eq (pe_cmpR op_eq (pv 1) (pv 4) rfl) (pe_cmpR op_eq (pv 2) (pv 5) rfl) rfl))) pss_nil)
      (pss_cons (ps_if (pt_cmpR op_eq (pv 3) pe_str rfl) (pss_one (ps_ret (pe_or (pe_cmpR op_ne (pv 1) (pv 4) rfl) (pe_one (pe_cmpR op_in_seq (pv 2) (pv 5) rfl))))) pss_nil)
      (pss_cons (ps_if (pt_cmpR op_eq (pv 3) pe_str rfl) (pss_one (ps_ret (pe_or (pe_cmpR op_ne (pv 2) (pv 4) rfl) (pe_one (pe_cmpR op_in_seq (pv 1) (pv 5) rfl))))) pss_nil)
      (pss_cons (ps_if (pt_cmpR op_eq (pv 3) pe_str rfl) (pss_one (ps_ret (pe_or (pe_cmpR op_notIn_seq (pv 1) (pv 4) rfl) (pe_one (pe_cmpR op_in_seq (pv 2) (pv 5) rfl))))) pss_nil)
      (pss_one (ps_ret (pe_or (pe_cmpR op_notIn_seq (pv 1) (pv 4) rfl) (pe_one (pe_cmpR op_notIn_seq (pv 2) (pv 5) rfl)))))))))), ?_⟩
    cases kk with
    | nt a b =>
      refine ⟨_, rfl, q, _, rfl, SqT.of hk, rfl, _, _, rfl, _, _, rfl, _, _, rfl, rfl, ?_⟩
      refine ⟨_, rfl, rfl, true, rfl, iteT ?_⟩
      by_cases c : g = a
      · refine ⟨_, rfl, _, rfl, rfl, false, by simp [c], iteF ⟨_, rfl, _, rfl, rfl, ?_⟩⟩
        simpa [letB, c] using k
      · refine ⟨_, rfl, _, rfl, rfl, true, by simp [c], iteT ?_⟩
        simpa [letB, c] using k
    | ths a b =>
      refine ⟨_, rfl, q, _, rfl, SqT.of hk, rfl, _, _, rfl, _, _, rfl, _, _, rfl, rfl, ?_⟩
      refine ⟨_, rfl, rfl, false, rfl, iteF ?_⟩
      refine ⟨_, rfl, rfl, true, rfl, iteT ?_⟩
      refine ⟨_, rfl, _, rfl, rfl, _, rfl, _, rfl, rfl, rfl, ?_⟩
      simpa [letB] using k
    | one a L =>
      obtain ⟨v, hk, l, rfl, hL⟩ := hk
      refine ⟨_, rfl, q, _, rfl, SqT.of hk, rfl, _, _, rfl, _, _, rfl, _, _, rfl, rfl, ?_⟩
      refine ⟨_, rfl, rfl, false, rfl, iteF ?_⟩
      refine ⟨_, rfl, rfl, false, rfl, iteF ?_⟩
      refine ⟨_, rfl, rfl, true, rfl, iteT ?_⟩
      by_cases c : g = a
      · refine ⟨_, rfl, _, rfl, rfl, false, by simp [c], iteF ⟨_, rfl, _, rfl, l, _, rfl, .inr (SqT.of hL), rfl, flat_txs _, ?_⟩⟩
        rw [inV_txs]
        simpa [letB, c] using k
      · refine ⟨_, rfl, _, rfl, rfl, true, by simp [c], iteT ?_⟩
        simpa [letB, c] using k
    | frm a L =>
      obtain ⟨v, hk, l, rfl, hL⟩ := hk
      refine ⟨_, rfl, q, _, rfl, SqT.of hk, rfl, _, _, rfl, _, _, rfl, _, _, rfl, rfl, ?_⟩
      refine ⟨_, rfl, rfl, false, rfl, iteF ?_⟩
      refine ⟨_, rfl, rfl, false, rfl, iteF ?_⟩
      refine ⟨_, rfl, rfl, false, rfl, iteF ?_⟩
      refine ⟨_, rfl, rfl, true, rfl, iteT ?_⟩
      by_cases c : t = a
      · refine ⟨_, rfl, _, rfl, rfl, false, by simp [c], iteF ⟨_, rfl, _, rfl, l, _, rfl, .inr (SqT.of hL), rfl, flat_txs _, ?_⟩⟩
        rw [inV_txs]
        simpa [letB, c] using k
      · refine ⟨_, rfl, _, rfl, rfl, true, by simp [c], iteT ?_⟩
        simpa [letB, c] using k
    | lot L M =>
      obtain ⟨u, v, hk, ⟨l, rfl, hL⟩, m, rfl, hM⟩ := hk
      refine ⟨_, rfl, q, _, rfl, SqT.of hk, rfl, _, _, rfl, _, _, rfl, _, _, rfl, rfl, ?_⟩
      refine ⟨_, rfl, rfl, false, rfl, iteF ?_⟩
      refine ⟨_, rfl, rfl, false, rfl, iteF ?_⟩
      refine ⟨_, rfl, rfl, false, rfl, iteF ?_⟩
      refine ⟨_, rfl, rfl, false, rfl, iteF ?_⟩
      refine ⟨_, rfl, rfl, true, rfl, iteT ?_⟩
      by_cases c : g ∈ L
      · refine ⟨_, rfl, _, rfl, l, _, rfl, .inr (SqT.of hL), rfl, flat_txs _, false, by rw [inV_txs]; simp [c], iteF ⟨_, rfl, _, rfl, m, _, rfl, .inr (SqT.of hM), rfl, flat_txs _, ?_⟩⟩
        rw [inV_txs]
        simpa [letB, c] using k
      · refine ⟨_, rfl, _, rfl, l, _, rfl, .inr (SqT.of hL), rfl, flat_txs _, true, by rw [inV_txs]; simp [c], iteT ?_⟩
        simpa [letB, c] using k
    | nvr L M =>
      obtain ⟨u, v, hk, ⟨l, rfl, hL⟩, m, rfl, hM⟩ := hk
      refine ⟨_, rfl, q, _, rfl, SqT.of hk, rfl, _, _, rfl, _, _, rfl, _, _, rfl, rfl, ?_⟩
      refine ⟨_, rfl, rfl, false, rfl, iteF ?_⟩
      refine ⟨_, rfl, rfl, false, rfl, iteF ?_⟩
      refine ⟨_, rfl, rfl, false, rfl, iteF ?_⟩
      refine ⟨_, rfl, rfl, false, rfl, iteF ?_⟩
      refine ⟨_, rfl, rfl, false, rfl, iteF ?_⟩
      by_cases c : g ∈ L
      · refine ⟨_, rfl, _, rfl, l, _, rfl, .inr (SqT.of hL), rfl, flat_txs _, false, by rw [inV_txs]; simp [c], iteF ⟨_, rfl, _, rfl, m, _, rfl, .inr (SqT.of hM), rfl, flat_txs _, ?_⟩⟩
        rw [inV_txs]
        simpa [letB, c] using k
      · refine ⟨_, rfl, _, rfl, l, _, rfl, .inr (SqT.of hL), rfl, flat_txs _, true, by rw [inV_txs]; simp [c], iteT ?_⟩
        simpa [letB, c] using k
theorem c_is_leak (T : Tx K mg) : C8.Cal P w K mg base 4 "is_leak" spIsLeak [] := by
  have cP := c_is_person (P := P) (w := w) (base := base) T
  have cQ := c_is_pair (P := P) (w := w) (base := base) T
  have cL := c_is_lot (P := P) (w := w) (base := base) T
  obtain ⟨fd, F, b⟩ := T.f_is_leak
  refine ⟨_, fd, _, [], F.ok (k := 3) sc_is_leak (fun vs H Q E h => ?_) (fun cdv A outer s H vs Q E hr h => ?_), T.g_is_leak, F.kp, b, .nil⟩
  · obtain ⟨_, _, _, _, rfl, _⟩ := h
    rfl
  · obtain ⟨ap, q, P, kk, rfl, hp, hk, gk, k⟩ := h
    refine ⟨_, pss_cons (ps_if (PW.pt (pw_or (pt_not (pt_val (pe_callB RZ.call_isTy (by rfl) T.b_isinstance (by rfl) (pa_cons (pv 1) (pa_cons (pe_bltn (by rfl) T.b_tuple (by rfl) (rTy _)) pa_nil)))))
        (pw_or (pt_cmpR op_ne (pe_callB call_len_seq (by rfl) T.b_len (by rfl) (pa_cons (pv 1) pa_nil)) pe_int rfl)
        (pw_or1 (pt_not (pt_val (pe_callB RZ.call_isTy (by rfl) T.b_isinstance (by rfl) (pa_cons (pe_ix ix_tup (pv 1) pe_int (fun _ _ => rfl)) (pa_cons (pe_bltn (by rfl) T.b_str (by rfl) (rTy _)) pa_nil))))))))) (pss_one ps_never) pss_nil)
      (pss_cons (ps_if (pt_cmpR op_in_seq (pe_ix ix_tup (pv 1) pe_int (fun _ _ => rfl)) (pe_tup (pa_cons pe_str (pa_cons pe_str pa_nil))) rfl)
        (pss_one (ps_ret (C8.pe_c cQ hr (by decide) rfl (pa_cons (pv 0) (pa_cons (pe_slice sl_tup (pv 1) (po_some pe_int) po_none) pa_nil))))) pss_nil)
      (pss_cons (ps_if (pt_cmpR op_in_seq (pe_ix ix_tup (pv 1) pe_int (fun _ _ => rfl)) (pe_tup (pa_cons pe_str (pa_cons pe_str pa_nil))) rfl)
        (pss_one (ps_ret (pe_and (C8.pe_c cP hr (by decide) rfl (pa_cons (pv 0) (pa_cons (pe_ix ix_tup (pv 1) pe_int (fun _ _ => rfl)) pa_nil))) (pe_one (C8.pe_c cL hr (by decide) rfl (pa_cons (pv 0) (pa_cons (pe_ix ix_tup (pv 1) pe_int (fun _ _ => rfl)) pa_nil))))))) pss_nil)
      (pss_cons (ps_if (pt_cmpR op_in_seq (pe_ix ix_tup (pv 1) pe_int (fun _ _ => rfl)) (pe_tup (pa_cons pe_str (pa_cons pe_str pa_nil))) rfl)
        (pss_one (ps_ret (pe_and (C8.pe_c cL hr (by decide) rfl (pa_cons (pv 0) (pa_cons (pe_ix ix_tup (pv 1) pe_int (fun _ _ => rfl)) pa_nil))) (pe_one (C8.pe_c cL hr (by decide) rfl (pa_cons (pv 0) (pa_cons (pe_ix ix_tup (pv 1) pe_int (fun _ _ => rfl)) pa_nil))))))) pss_nil)
      (pss_one ps_never)))), ?_⟩
    obtain ⟨wd, u, v, hq⟩ := hk.tup
    refine ⟨_, rfl, _, _, rfl, .tup hq, true, rfl, iteF ?_⟩
    refine ⟨_, rfl, q, _, rfl, .inr (SqT.of hq), rfl, false, rfl, iteF ?_⟩
    refine ⟨_, rfl, q, _, _, _, rfl, rfl, SqT.of hq, rfl, _, _, rfl, .str wd, true, rfl, iteF ?_⟩
    clear hq wd u v
    cases kk with
    | nt a b =>
      have hk : H q = _ := hk
      have s0 : Same H H := fun _ _ e => e
      refine ⟨_, rfl, q, _, _, _, rfl, rfl, SqT.of (s0 _ _ hk), rfl, (by decide : 2 ≤ sizeLine), fun p0 np0 => ⟨p0, _, rfl, .inr (SqT.of upd_same), rfl, rfl, true, rfl, iteT ?_⟩⟩
      have s1 := s0.trans (same_new (o := .tup [.str "not", .str "this"]) np0)
      refine ⟨_, rfl, _, rfl, _, rfl, q, _, rfl, SqT.of (s1 _ _ hk), (by decide : ¬ (HT.sIx 3 0 (some 1) = 0 ∧ HT.sIx 3 3 none = 3)), fun r nr => ?_⟩
      have s2 := s1.trans (same_new (o := .tup [.str a, .str b]) nr)
      refine ⟨ap, r, P, a, b, rfl, s2 _ _ hp, upd_same, fun H3 s3 => ?_⟩
      rw [decide_eq_true (show a ∈ P ∧ b ∈ P ∧ a ≠ b from gk)]
      exact k _ (s2.trans s3)
    | ths a b =>
      have hk : H q = _ := hk
      have s0 : Same H H := fun _ _ e => e
      refine ⟨_, rfl, q, _, _, _, rfl, rfl, SqT.of (s0 _ _ hk), rfl, (by decide : 2 ≤ sizeLine), fun p0 np0 => ⟨p0, _, rfl, .inr (SqT.of upd_same), rfl, rfl, true, rfl, iteT ?_⟩⟩
      have s1 := s0.trans (same_new (o := .tup [.str "not", .str "this"]) np0)
      refine ⟨_, rfl, _, rfl, _, rfl, q, _, rfl, SqT.of (s1 _ _ hk), (by decide : ¬ (HT.sIx 3 0 (some 1) = 0 ∧ HT.sIx 3 3 none = 3)), fun r nr => ?_⟩
      have s2 := s1.trans (same_new (o := .tup [.str a, .str b]) nr)
      refine ⟨ap, r, P, a, b, rfl, s2 _ _ hp, upd_same, fun H3 s3 => ?_⟩
      rw [decide_eq_true (show a ∈ P ∧ b ∈ P ∧ a ≠ b from gk)]
      exact k _ (s2.trans s3)
    | one a L =>
      obtain ⟨v, hk, tv⟩ := hk
      have s0 : Same H H := fun _ _ e => e
      refine ⟨_, rfl, q, _, _, _, rfl, rfl, SqT.of (s0 _ _ hk), rfl, (by decide : 2 ≤ sizeLine), fun p0 np0 => ⟨p0, _, rfl, .inr (SqT.of upd_same), rfl, rfl, false, rfl, iteF ?_⟩⟩
      have s1 := s0.trans (same_new (o := .tup [.str "not", .str "this"]) np0)
      refine ⟨_, rfl, q, _, _, _, rfl, rfl, SqT.of (s1 _ _ hk), rfl, (by decide : 2 ≤ sizeLine), fun p1 np1 => ⟨p1, _, rfl, .inr (SqT.of upd_same), rfl, rfl, true, rfl, iteT ?_⟩⟩
      have s2 := s1.trans (same_new (o := .tup [.str "one", .str "from"]) np1)
      refine ⟨_, rfl, _, rfl, q, _, _, _, rfl, rfl, SqT.of (s2 _ _ hk), rfl, ap, P, a, rfl, s2 _ _ hp, true, congrArg V.bl (decide_eq_true gk.1), iteT ?_⟩
      exact ⟨_, rfl, _, rfl, q, _, _, _, rfl, rfl, SqT.of (s2 _ _ hk), rfl, ap, v, P, L, rfl, s2 _ _ hp, tv.same s2, gk.2, fun H3 s3 => k _ (s2.trans s3)⟩
    | frm a L =>
      obtain ⟨v, hk, tv⟩ := hk
      have s0 : Same H H := fun _ _ e => e
      refine ⟨_, rfl, q, _, _, _, rfl, rfl, SqT.of (s0 _ _ hk), rfl, (by decide : 2 ≤ sizeLine), fun p0 np0 => ⟨p0, _, rfl, .inr (SqT.of upd_same), rfl, rfl, false, rfl, iteF ?_⟩⟩
      have s1 := s0.trans (same_new (o := .tup [.str "not", .str "this"]) np0)
      refine ⟨_, rfl, q, _, _, _, rfl, rfl, SqT.of (s1 _ _ hk), rfl, (by decide : 2 ≤ sizeLine), fun p1 np1 => ⟨p1, _, rfl, .inr (SqT.of upd_same), rfl, rfl, true, rfl, iteT ?_⟩⟩
      have s2 := s1.trans (same_new (o := .tup [.str "one", .str "from"]) np1)
      refine ⟨_, rfl, _, rfl, q, _, _, _, rfl, rfl, SqT.of (s2 _ _ hk), rfl, ap, P, a, rfl, s2 _ _ hp, true, congrArg V.bl (decide_eq_true gk.1), iteT ?_⟩
      exact ⟨_, rfl, _, rfl, q, _, _, _, rfl, rfl, SqT.of (s2 _ _ hk), rfl, ap, v, P, L, rfl, s2 _ _ hp, tv.same s2, gk.2, fun H3 s3 => k _ (s2.trans s3)⟩
    | lot L M =>
      obtain ⟨u, v, hk, tu, tv⟩ := hk
      have s0 : Same H H := fun _ _ e => e
      refine ⟨_, rfl, q, _, _, _, rfl, rfl, SqT.of (s0 _ _ hk), rfl, (by decide : 2 ≤ sizeLine), fun p0 np0 => ⟨p0, _, rfl, .inr (SqT.of upd_same), rfl, rfl, false, rfl, iteF ?_⟩⟩
      have s1 := s0.trans (same_new (o := .tup [.str "not", .str "this"]) np0)
      refine ⟨_, rfl, q, _, _, _, rfl, rfl, SqT.of (s1 _ _ hk), rfl, (by decide : 2 ≤ sizeLine), fun p1 np1 => ⟨p1, _, rfl, .inr (SqT.of upd_same), rfl, rfl, false, rfl, iteF ?_⟩⟩
      have s2 := s1.trans (same_new (o := .tup [.str "one", .str "from"]) np1)
      refine ⟨_, rfl, q, _, _, _, rfl, rfl, SqT.of (s2 _ _ hk), rfl, (by decide : 2 ≤ sizeLine), fun p2 np2 => ⟨p2, _, rfl, .inr (SqT.of upd_same), rfl, rfl, true, rfl, iteT ?_⟩⟩
      have s3 := s2.trans (same_new (o := .tup [.str "lot", .str "never"]) np2)
      refine ⟨_, rfl, _, rfl, q, _, _, _, rfl, rfl, SqT.of (s3 _ _ hk), rfl, ap, u, P, L, rfl, s3 _ _ hp, tu.same s3, gk.1, fun H4 s4 => ⟨true, rfl, iteT ?_⟩⟩
      have s5 := s3.trans s4
      exact ⟨_, rfl, _, rfl, q, _, _, _, rfl, rfl, SqT.of (s5 _ _ hk), rfl, ap, v, P, M, rfl, s5 _ _ hp, tv.same s5, gk.2, fun H6 s6 => k _ (s5.trans s6)⟩
    | nvr L M =>
      obtain ⟨u, v, hk, tu, tv⟩ := hk
      have s0 : Same H H := fun _ _ e => e
      refine ⟨_, rfl, q, _, _, _, rfl, rfl, SqT.of (s0 _ _ hk), rfl, (by decide : 2 ≤ sizeLine), fun p0 np0 => ⟨p0, _, rfl, .inr (SqT.of upd_same), rfl, rfl, false, rfl, iteF ?_⟩⟩
      have s1 := s0.trans (same_new (o := .tup [.str "not", .str "this"]) np0)
      refine ⟨_, rfl, q, _, _, _, rfl, rfl, SqT.of (s1 _ _ hk), rfl, (by decide : 2 ≤ sizeLine), fun p1 np1 => ⟨p1, _, rfl, .inr (SqT.of upd_same), rfl, rfl, false, rfl, iteF ?_⟩⟩
      have s2 := s1.trans (same_new (o := .tup [.str "one", .str "from"]) np1)
      refine ⟨_, rfl, q, _, _, _, rfl, rfl, SqT.of (s2 _ _ hk), rfl, (by decide : 2 ≤ sizeLine), fun p2 np2 => ⟨p2, _, rfl, .inr (SqT.of upd_same), rfl, rfl, true, rfl, iteT ?_⟩⟩
      have s3 := s2.trans (same_new (o := .tup [.str "lot", .str "never"]) np2)
      refine ⟨_, rfl, _, rfl, q, _, _, _, rfl, rfl, SqT.of (s3 _ _ hk), rfl, ap, u, P, L, rfl, s3 _ _ hp, tu.same s3, gk.1, fun H4 s4 => ⟨true, rfl, iteT ?_⟩⟩
      have s5 := s3.trans s4
      exact ⟨_, rfl, _, rfl, q, _, _, _, rfl, rfl, SqT.of (s5 _ _ hk), rfl, ap, v, P, M, rfl, s5 _ _ hp, tv.same s5, gk.2, fun H6 s6 => k _ (s5.trans s6)⟩
end
end G
set_option Elab.async false
set_option linter.all false
set_option maxRecDepth 100000
set_option maxHeartbeats 4000000
namespace G
open PySem PySem.Spec PyProof.Rows L2 GM
abbrev CB (K : PySem.W.Frag) : Addr := He.ga K "Book"
def Lks (H : Hp) (xs : List V) (l : List Leak) : Prop := xs.length = l.length ∧ ∀ (i : Nat) (k : Leak), l[i]? = some k → ∃ q, xs[i]? = some (.ref q) ∧ LeakAt H q k
theorem Lks.same {H H' : Hp} {xs : List V} {l : List Leak} (h : Lks H xs l) (s : Same H H') : Lks H' xs l := ⟨h.1, fun i k e => let ⟨q, a, c⟩ := h.2 i k e; ⟨q, a, c.same s⟩⟩
theorem Lks.at {H : Hp} {xs : List V} {l : List Leak} (h : Lks H xs l) {i : Nat} {v : V} (e : xs[i]? = some v) : ∃ k q, l[i]? = some k ∧ v = .ref q ∧ LeakAt H q k := by
  have il : i < l.length := by
    have := (List.getElem?_eq_some_iff.mp e).1
    rw [h.1] at this
    exact this
  obtain ⟨k, hk⟩ := take_at il
  obtain ⟨q, a, c⟩ := h.2 i k hk
  rw [a] at e
  exact ⟨k, q, hk, (Option.some.inj e).symm, c⟩
def allB (l : List Leak) (g t : Str) : Bool := l.all fun k => letB k g t
def rowsOf (P : List Str) (B : List (Str × Str)) (l : List Leak) (g : Str) : List Str := (mayl P B g).filter fun t => allB l g t
theorem rowsOf_wf {P : List Str} (nd : P.Nodup) (B : List (Str × Str)) (l : List Leak) : WF P (rowsOf P B l) := ⟨nd, fun g _ t ht => (mem_mayl.mp (List.mem_filter.mp ht).1).1⟩
theorem rowsOf_short {P : List Str} (h : P.length ≤ 24) (B : List (Str × Str)) (l : List Leak) : Short P (rowsOf P B l) := fun o _ => by
  have h1 := List.length_filter_le (fun t => allB l o t) (mayl P B o)
  have h2 := mayl_len P B o
  unfold rowsOf
  omega
def BookAt (K : PySem.W.Frag) (H : Hp) (a : Addr) (P : List Str) (B : List (Str × Str)) (l : List Leak) : Prop :=
  ∃ (dx pt rw : Addr) (fs : List (Str × V)), H a = some (.ins (CB K) dx fs) ∧ fs.lookup ("_party" : Str) = some (.ref pt) ∧ fs.lookup ("_rows" : Str) = some (.ref rw) ∧ PartyAt (CP K) H pt P B ∧ RowsU H rw P (rowsOf P B l) ∧
    fs.lookup ("party" : Str) = none ∧ fs.lookup ("rows" : Str) = none
theorem BookAt.same {K : PySem.W.Frag} {H H' : Hp} {a : Addr} {P : List Str} {B : List (Str × Str)} {l : List Leak} (h : BookAt K H a P B l) (s : Same H H') : BookAt K H' a P B l :=
  let ⟨dx, pt, rw, fs, h1, h2, h3, h4, h5, h6⟩ := h
  ⟨dx, pt, rw, fs, s _ _ h1, h2, h3, h4.same s, h5.same s, h6⟩
def rListOf (K : PySem.W.Frag) : List V → Hp → VK → Prop := fun xs H Q => ∃ p ys, xs = [V.ref p] ∧ (SqL K H p ys ∨ SqT K H p ys) ∧ ∀ l, H l = none → Q (.ref l) (upd H l (.lst ys))
def spAllLet : Sp := fun vs H Q _ => ∃ (al : Addr) (xs : List V) (l : List Leak) (g t : Str), vs = [.ref al, .str g, .str t] ∧ H al = some (.lst xs) ∧ Lks H xs l ∧ Q (.bl (allB l g t)) H
def spBookInit (K : PySem.W.Frag) : Sp := fun vs H Q _ => ∃ (a dx pt al : Addr) (P : List Str) (B : List (Str × Str)) (xs : List V) (l : List Leak), vs = [.ref a, .ref pt, .ref al] ∧ H a = some (.ins (CB K) dx []) ∧ PartyAt (CP K) H pt P B ∧ GoodP P ∧ H al = some (.lst xs) ∧ Lks H xs l ∧ l.length ≤ 40 ∧ (∀ k, k ∈ l → GoodL P k) ∧
  ∀ H', Kept [a] H H' → BookAt K H' a P B l → Q .non H'
def spBookParty (K : PySem.W.Frag) : Sp := fun vs H Q _ => ∃ (a : Addr) (P : List Str) (B : List (Str × Str)) (l : List Leak), vs = [.ref a] ∧ BookAt K H a P B l ∧ ∀ pt, PartyAt (CP K) H pt P B → Q (.ref pt) H
def spBookRows (K : PySem.W.Frag) : Sp := fun vs H Q _ => ∃ (a : Addr) (P : List Str) (B : List (Str × Str)) (l : List Leak), vs = [.ref a] ∧ BookAt K H a P B l ∧ P.Nodup ∧ P.length ≤ 24 ∧ ∀ (H' : Hp) (p : Addr), Same H H' → H p = none → RowsU H' p P (rowsOf P B l) → Q (.ref p) H'
section
variable {P : Program} {w : World} {K : PySem.W.Frag} {mg : Str → Option Value} {base : Heap}
theorem c_all_let (T : Tx K mg) : C8.Cal P w K mg base 2 "all_let" spAllLet [] := by
  have cL := c_lets (P := P) (w := w) (base := base) T
  obtain ⟨fd, F, b⟩ := T.f_all_let
  refine ⟨_, fd, _, [], F.ok (k := 1) sc_all_let (fun vs H Q E h => ?_) (fun cdv A outer s H vs Q E hr h => ?_), T.g_all_let, F.kp, b, .nil⟩
  · obtain ⟨_, _, _, _, _, rfl, _⟩ := h
    rfl
  · obtain ⟨al, xs, l, g, t, rfl, hx, hl, k⟩ := h
    refine ⟨_, pss_cons (ps_for PassesOwn.never rfl (pi_list (pv 0)) (pg_name (i := 3) sc_all_let.nd rfl (.inl rfl))
        (pss_one (ps_if (pt_not (pt_val (C8.pe_c cL hr (Nat.le_refl _) rfl (pa_cons (pv 3) (pa_cons (pv 1) (pa_cons (pv 2) pa_nil)))))) (pss_one (ps_ret pe_bl)) pss_nil)))
      (pss_one (ps_ret pe_bl)), ?_⟩
    refine ⟨_, rfl, al, rfl, ⟨_, SqL.of hx⟩, ?_⟩
    refine for_it (walk_list (xs := xs)) (fun i σ H1 => H1 = H ∧ ∃ v3 : Option V, σ = [some (.ref al), some (.str g), some (.str t), v3] ∧ ∀ k, k ∈ l.take i → letB k g t = true) ⟨rfl, _, rfl, fun k hk => by simp at hk⟩ (fun i σ H1 _ p => by rw [p.1]; exact SqL.of hx) ?_ ?_
    · rintro i v σ H1 H2 hi ⟨rfl, v3, rfl, ha⟩ ⟨rfl, hv⟩
      obtain ⟨kk, q, hk, rfl, hq⟩ := hl.at hv
      refine ⟨_, rfl, _, rfl, _, rfl, q, kk, g, t, rfl, hq, _, rfl, ?_⟩
      cases c : letB kk g t with
      | true =>
        refine iteF ⟨rfl, _, rfl, fun k' hk' => ?_⟩
        rw [take_next hk] at hk'
        rcases List.mem_append.mp hk' with z | z
        · exact ha k' z
        · rw [List.mem_singleton.mp z]; exact c
      | false =>
        refine iteT ?_
        have e : allB l g t = false := List.all_eq_false.mpr ⟨kk, mem_at hk, by rw [c]; exact Bool.false_ne_true⟩
        rw [e] at k
        exact k
    · rintro σ H1 ⟨rfl, v3, rfl, ha⟩
      rw [hl.1, List.take_length] at ha
      have e : allB l g t = true := List.all_eq_true.mpr ha
      rw [e] at k
      exact k
theorem c_bookParty (T : Tx K mg) : C8.Met P w K mg base 1 (CB K) "party" (spBookParty K) [] := by
  obtain ⟨fd, F, b⟩ := T.f_Book_party
  refine ⟨_, fd, _, [], T.c_Book, T.m_Book_party, F.ok (k := 0) sc_Book_party (fun vs H Q E h => ?_) (fun cdv A outer s H vs Q E hr h => ?_), b, .nil⟩
  · obtain ⟨_, _, _, _, rfl, _⟩ := h
    rfl
  · obtain ⟨a, P, B, l, rfl, ba, k⟩ := h
    refine ⟨_, pss_one (ps_ret (pe_fld (pv 0) rfl)), ?_⟩
    obtain ⟨dx, pt, rw, fs, h1, h2, h3, h4, h5, h6⟩ := ba
    exact ⟨_, rfl, a, _, dx, fs, _, rfl, h1, T.c_Book, T.n_Book_party, h2, k pt h4⟩
theorem c_bookRows (T : Tx K mg) : C8.Met P w K mg base 1 (CB K) "rows" (spBookRows K) [] := by
  obtain ⟨fd, F, b⟩ := T.f_Book_rows
  refine ⟨_, fd, _, [], T.c_Book, T.m_Book_rows, F.ok (k := 0) sc_Book_rows (fun vs H Q E h => ?_) (fun cdv A outer s H vs Q E hr h => ?_), b, .nil⟩
  · obtain ⟨_, _, _, _, rfl, _⟩ := h
    rfl
  · obtain ⟨a, P, B, l, rfl, ba, nd, hl, k⟩ := h
    have hu := hu_of hr
    refine ⟨_, pss_one (ps_ret (pe_lock (pe_dg (tv := tCB (rListOf K) (tCons (tDGet (tFld K (tVar 0) "_rows") (tVar 1)) tNil)) false (Nat.lt_of_succ_lt hu) rfl sc_Book_rows.nd (pi_keys (pe_fld (pv 0) (by rfl))) (blkOk_by (own := [("giver", 1)]) (N := N_Book_rows) (sc := defScope sBook_rows) (by decide +kernel))
      (fun _ _ _ _ _ => pg_name (i := 1) sc_Book_rows.nd rfl (Or.inl rfl)) (fun _ _ _ _ _ => pts_nil) (fun _ _ _ _ _ => pv 1)
      (fun _ _ _ _ _ => pe_callTy call_list_of (by rfl) T.b_list (by rfl) (pa_cons (pe_dget hu (pe_fld (pv 0) (by rfl)) (pv 1) (fun _ _ => rfl)) pa_nil))))), ?_⟩
    obtain ⟨dx, pt, rw', fs, h1, h2, h3, h4, ⟨ad, hd, hL⟩, h6⟩ := ba
    have na : a ≠ rw' := ne_of h1 hd (by intro z; cases z)
    refine ⟨rw', _, hd, trivial, fun od => ?_⟩
    have h1L : upd H rw' (.frz od (.dK (dm P fun g => .ref (ad g)))) a = some (.ins (CB K) dx fs) := by rw [upd_ne na]; exact h1
    refine ⟨_, rfl, a, _, dx, fs, _, rfl, h1L, T.c_Book, T.n_Book_rows, h3, rw', od, rfl, .inl ⟨_, upd_same, fun D nD => ?_⟩⟩
    have lad : ∀ o, o ∈ P → upd H rw' (.frz od (.dK (dm P fun g => .ref (ad g)))) (ad o) = some (.lst (txs (rowsOf P B l o))) := fun o ho => by
      rw [upd_ne (ne_of (hL o ho) hd (by intro z; cases z))]
      exact hL o ho
    refine dg_turns (t := false) P.length (fun i H2 => ∃ ae : Str → Addr, Same (upd H rw' (.frz od (.dK (dm P fun g => .ref (ad g))))) H2 ∧ H2 D = some (.dK (dm (P.take i) fun g => .ref (ae g))) ∧ ∀ g, g ∈ P.take i → H2 (ae g) = some (.lst (txs (rowsOf P B l g)))) ⟨fun _ => a, same_new nD, upd_same, fun g hg => by simp at hg⟩ (fun i H2 hi p => ?_) (fun H2 p => ?_) ?_ ?_
    · obtain ⟨_, s2, _⟩ := p
      exact ⟨s2 _ _ upd_same, by rw [dm_len]; exact hi⟩
    · obtain ⟨_, s2, _⟩ := p
      exact ⟨s2 _ _ upd_same, by rw [dm_len]; exact Nat.le_refl _⟩
    · rintro i H2 hi ⟨ae, s2, e2, q2⟩ x H3 ⟨rfl, kk, v, hk, rfl⟩
      obtain ⟨g, hg, rfl, rfl⟩ := dm_at hk
      have gP := mem_at hg
      have gn := not_mem_take nd hg
      refine ⟨rfl, ?_⟩
      refine ⟨_, rfl, _, rfl, a, _, dx, fs, _, rfl, s2 _ _ h1L, T.c_Book, T.n_Book_rows, h3, _, rfl, rw', _, rfl, get_dm (.inr ⟨od, s2 _ _ upd_same⟩) gP, ad g, _, rfl, .inl (SqL.of (s2 _ _ (lad g gP))), fun n nn => ?_⟩
      have s3 := same_new (o := .lst (txs (rowsOf P B l g))) nn
      refine ⟨_, DPut.k (k := Sum.inr g) (s3 _ _ e2) (by rw [dm_len, List.length_take]; exact lt24 (by omega)), fset ae g n, (s2.trans s3).put nD, ?_, fun u hu' => ?_⟩
      · rw [upd_same, put_next nd hg, fset_ref]
      · rw [take_next hg] at hu'
        rcases mem_snoc.mp hu' with c | c
        · rw [c, fset_same, upd_ne (fun z => by rw [z, e2] at nn; cases nn), upd_same]
        · rw [fset_ne _ _ (fun (z : u = g) => gn (z ▸ c)), upd_ne (ne_of (s3 _ _ (q2 u c)) (s3 _ _ e2) (by intro z; cases z))]
          exact s3 _ _ (q2 u c)
    · rintro H2 ⟨ae, s2, e2, q2⟩
      rw [List.take_length] at e2 q2
      obtain ⟨r1, r2, r3, r4⟩ := behind_lock hd nD s2
      refine ⟨r1, k _ D r2 r3 ⟨ae, r4 _ e2, fun g hg => ?_⟩⟩
      rw [upd_ne (ne_of (q2 g hg) r1 (by intro z; cases z))]
      exact q2 g hg
end
end G
set_option Elab.async false
set_option linter.all false
set_option maxRecDepth 100000
set_option maxHeartbeats 4000000
namespace G
open PySem PySem.Spec PyProof.Rows L2 GM
theorem mk_kept {H H' : Hp} {x dx C : Addr} (nx : H x = none) (ndx : H dx = none) (ne : dx ≠ x) (k : Kept [x] (upd (upd H dx (.own x)) x (.ins C dx [])) H') : Same H H' := fun b o e => by
  have h1 : b ≠ x := ne_of_none e nx
  have h2 : b ≠ dx := ne_of_none e ndx
  exact k b o (by simpa using h1) (by rw [upd_ne h1, upd_ne h2]; exact e)
theorem mk_at {H : Hp} {x dx C : Addr} (nx : H x = none) (ndx : H dx = none) : Same H (upd (upd H dx (.own x)) x (.ins C dx [])) := fun b o e => by
  rw [upd_ne (ne_of_none e nx), upd_ne (ne_of_none e ndx)]
  exact e
section
variable {P : Program} {w : World} {K : PySem.W.Frag} {mg : Str → Option Value} {base : Heap}
theorem c_bookInit (T : Tx K mg) : C8.Mak P w K mg base 6 "Book" (CB K) (spBookInit K) [] := by
  have cN := c_people (P := P) (w := w) (base := base) T
  have cM := c_may (P := P) (w := w) (base := base) T
  have cL := c_is_leak (P := P) (w := w) (base := base) T
  have cA := c_all_let (P := P) (w := w) (base := base) T
  obtain ⟨tk, eM⟩ := T.i_MOST_LEAKS
  obtain ⟨fd, F, b⟩ := T.f_Book_Init
  refine ⟨_, fd, _, [], T.k_Book, F.ok (k := 5) sc_Book_Init (fun vs H Q E h => ?_) (fun cdv A outer s H vs Q E hr h => ?_), T.g_Book, b, .nil⟩
  · obtain ⟨_, _, _, _, _, _, _, _, rfl, _⟩ := h
    rfl
  · obtain ⟨a, dx, pt, al, P, B, xs, l, rfl, ha, hp, gp, hx, hl, ll, gl, k⟩ := h
    have hu := hu_of hr
    refine ⟨_, pss_cons (ps_if (PW.pt (pw_or (pt_not (pt_val (pe_callB RZ.call_isTy (by rfl) T.b_isinstance (by rfl) (pa_cons (pv 2) (pa_cons (pe_bltn (by rfl) T.b_list (by rfl) (rTy _)) pa_nil)))))
        (pw_or1 (pt_cmpR op_gt (pe_callB call_len_seq (by rfl) T.b_len (by rfl) (pa_cons (pv 2) pa_nil)) (pe_glob (v := .int 40) (by rfl) eM ⟨tk, rfl⟩) rfl)))) (pss_one ps_never) pss_nil)
      (pss_cons (ps_set (i := 3) sc_Book_Init.nd rfl (.inl rfl) (C8.pe_mt0 cN hr (by decide) (pv 1)))
      (pss_cons (ps_for PassesOwn.never rfl (pi_enum (by rfl) T.b_enumerate (pa_cons (pv 2) pa_nil)) (pg_tup rfl (pgs_cons (pg_name (i := 4) sc_Book_Init.nd rfl (.inl rfl)) (pgs_cons (pg_name (i := 5) sc_Book_Init.nd rfl (.inl rfl)) pgs_nil)))
        (pss_one (ps_if (pt_not (pt_val (C8.pe_c cL hr (by decide) rfl (pa_cons (pv 3) (pa_cons (pv 5) pa_nil))))) (pss_one ps_never) pss_nil)))
      (pss_cons (ps_set (i := 6) sc_Book_Init.nd rfl (.inl rfl) pe_dnewK)
      (pss_cons (ps_for PassesOwn.never rfl (pi_tup (pv 3)) (pg_name (i := 7) sc_Book_Init.nd rfl (.inr rfl))
        (pss_cons (ps_set (i := 8) sc_Book_Init.nd rfl (.inl rfl) (C8.pe_mt cM hr (by decide) (pv 1) (pa_cons (pv 7) pa_nil)))
        (pss_one (ps_dput hu (pv 6) (pv 7) (pe_lc rfl sc_Book_Init.nd (pi_list (pv 8)) (blkOk_by (own := [("taker", 9)]) (N := N_Book_Init) (sc := defScope sBook_Init) (by decide +kernel))
          (fun _ _ _ _ _ => pg_name (i := 9) sc_Book_Init.nd rfl (Or.inl rfl)) (fun _ _ _ _ _ => pts_one (pt_val (C8.pe_c cA hr (by decide) rfl (pa_cons (pv 2) (pa_cons (pv 7) (pa_cons (pv 9) pa_nil)))))) (fun _ _ _ _ _ => pv 9)) rfl))))
      (pss_cons (ps_fld (pv 0) (pv 1) rfl)
      (pss_cons (ps_fld (pv 0) (pe_callTy call_list_of (by rfl) T.b_list (by rfl) (pa_cons (pv 2) pa_nil)) rfl)
      (pss_one (ps_fld (pv 0) (pv 6) rfl)))))))), ?_⟩
    refine ⟨_, rfl, _, _, rfl, .lst hx, true, rfl, iteF ?_⟩
    refine ⟨_, rfl, al, xs, rfl, .inl (SqL.of hx), _, _, rfl, rfl, false, congrArg V.bl (decide_eq_false (by rw [hl.1]; omega)), iteF ?_⟩
    obtain ⟨pdx, ap0, ac, pfs, kvs, p1, p2, p3, p4, p5, p6, p7, p8⟩ := id hp
    have npt : pt ≠ a := fun z => by
      rw [z, ha] at p1
      have e3 := (HO.ins.inj (Option.some.inj p1)).2.2
      rw [← e3] at p2
      cases p2
    refine ⟨_, rfl, pt, pdx, pfs, rfl, p1, p7, pt, P, B, rfl, hp, fun ap hap => ?_⟩
    refine ⟨_, rfl, al, xs, rfl, SqL.of hx, ?_⟩
    refine for_it walk_enum (fun i σ H1 => ∃ v4 v5 : Option V, σ = [some (.ref a), some (.ref pt), some (.ref al), some (.ref ap), v4, v5, none, none, none, none] ∧ Same H H1) ⟨none, none, rfl, fun _ _ e => e⟩
      (fun i σ H1 _ p => by obtain ⟨_, _, _, s1⟩ := p; exact SqL.of (s1 _ _ hx)) ?_ ?_
    · rintro i x σ H1 H2 hi ⟨v2, v3, rfl, s1⟩ ⟨t, a1, a2, rfl, nt, rfl, e1, e2⟩
      cases e1
      obtain ⟨kk, q, hk, rfl, hq⟩ := (hl.same s1).at e2
      have s2 : Same H1 (upd H1 t (.tup [.int (i : Nat), .ref q])) := same_new nt
      have S2 := s1.trans s2
      refine ⟨t, _, rfl, SqT.of upd_same, rfl, _, _, rfl, _, _, rfl, rfl, ?_⟩
      have hq2 := hq.same s2
      generalize upd H1 t (.tup [.int (i : Nat), .ref q]) = H3 at S2 hq2 ⊢
      refine ⟨_, rfl, _, rfl, ap, q, P, kk, rfl, S2 _ _ hap, hq2, gl kk (mem_at hk), fun H4 s4 => ?_⟩
      exact ⟨true, rfl, iteF ⟨_, _, rfl, S2.trans s4⟩⟩
    · rintro σ H1 ⟨v4, v5, rfl, s1⟩
      intro dr nr
      refine ⟨_, rfl, ap, rfl, ⟨_, SqT.of ((s1.trans (same_new nr)) _ _ hap)⟩, ?_⟩
      have nd := gp.2.2.1
      have lP := gp.2.1
      have nr0 : H dr = none := s1.free nr
      refine for_it (walk_tup (xs := txs P)) (fun i σ H2 => ∃ (v7 v8 : Option V) (ae : Str → Addr), σ = [some (.ref a), some (.ref pt), some (.ref al), some (.ref ap), v4, v5, some (.ref dr), v7, v8, none] ∧ Same H H2 ∧ H2 dr = some (.dK (dm (P.take i) fun o => .ref (ae o))) ∧ ∀ o, o ∈ P.take i → H2 (ae o) = some (.lst (txs (rowsOf P B l o))))
        ⟨none, none, fun _ => a, rfl, s1.trans (same_new nr), upd_same, fun o ho => by simp at ho⟩ (fun i σ H2 _ p => by obtain ⟨_, _, _, _, s2, _⟩ := p; exact SqT.of (s2 _ _ hap)) ?_ ?_
      · rintro i x σ H2 H3 hi ⟨v7, v8, ae, rfl, s2, e2, q2⟩ ⟨rfl, hv⟩
        obtain ⟨g, hg, rfl⟩ := txs_get hv
        have gP := mem_at hg
        have gn := not_mem_take nd hg
        refine ⟨_, rfl, pt, pdx, pfs, rfl, s2 _ _ p1, p8, _, rfl, pt, P, B, g, rfl, hp.same s2, gP, lP, fun H4 my s4 ny e4 => ?_⟩
        refine ⟨_, rfl, my, rfl, ⟨_, SqL.of e4⟩, fun N nN => ?_⟩
        have S4 := s2.trans s4
        refine lc_keep (walk_list (xs := txs (mayl P B g))) (k := 9) (onT fun t => allB l g t) (fun H' s' => SqL.of (s' _ _ e4)) nN (txs_lt (Nat.le_trans (mayl_len P B g) lP)) (fun _ => rfl) (fun _ => rfl) (fun i x H' hx' s' C hC => ?_) (fun H5 s5 e5 => ?_)
        · obtain ⟨t, ht, rfl⟩ := txs_get hx'
          have S' := S4.trans s'
          exact ⟨_, rfl, _, rfl, _, rfl, al, xs, l, g, t, rfl, S' _ _ hx, hl.same S', _, rfl, hC _ fun _ _ e => e⟩
        · have ex : (txs (mayl P B g)).filter (onT fun t => allB l g t) = txs (rowsOf P B l g) := txs_filter _ _
          rw [ex] at e5
          have S5 := s4.trans s5
          refine ⟨_, rfl, _, rfl, dr, _, rfl, DPut.k (k := Sum.inr g) (S5 _ _ e2) (by rw [dm_len, List.length_take]; exact lt24 (by omega)), _, _, fset ae g N, rfl, (s2.trans S5).put nr0, ?_, fun u hu' => ?_⟩
          · rw [upd_same, put_next nd hg, fset_ref]
          · rw [take_next hg] at hu'
            rcases mem_snoc.mp hu' with c | c
            · rw [c, fset_same, upd_ne (fun z => by rw [z, S5 _ _ e2] at e5; cases e5), e5]
            · rw [fset_ne _ _ (fun (z : u = g) => gn (z ▸ c)), upd_ne (ne_of (S5 _ _ (q2 u c)) (S5 _ _ e2) (by intro z; cases z))]
              exact S5 _ _ (q2 u c)
      · rintro σ H2 ⟨v7, v8, ae, rfl, s2, e2, q2⟩
        rw [txs_len, List.take_length] at e2 q2
        refine ⟨_, rfl, _, rfl, a, _, dx, _, rfl, s2 _ _ ha, T.c_Book, T.n_Book_party, (by decide : 0 < 1000), ?_⟩
        have ne : ∀ {H' : Hp} {fs : List (Str × V)} {b : Addr} {o : HO}, H' a = some (.ins (CB K) dx fs) → H' b = some o → (∀ fs, o ≠ .ins (CB K) dx fs) → b ≠ a := fun {H' fs b o} ea e n z => by
          rw [z, ea] at e
          exact n _ (Option.some.inj e).symm
        have K3 : Kept [a] H (upd H2 a (.ins (CB K) dx (putF "_party" (.ref pt) []))) := (s2.kept [a]).trans (kept_upd (by simp))
        have k3 : Kept [a] H2 (upd H2 a (.ins (CB K) dx (putF "_party" (.ref pt) []))) := kept_upd (by simp)
        have ha3 : upd H2 a (.ins (CB K) dx (putF "_party" (.ref pt) [])) a = some (.ins (CB K) dx (putF "_party" (.ref pt) [])) := upd_same
        have hx3 : upd H2 a (.ins (CB K) dx (putF "_party" (.ref pt) [])) al = some (.lst xs) := k3 _ _ (by simpa using ne (s2 _ _ ha) (s2 _ _ hx) (fun _ z => by cases z)) (s2 _ _ hx)
        generalize upd H2 a (.ins (CB K) dx (putF "_party" (.ref pt) [])) = H3 at K3 k3 ha3 hx3 ⊢
        refine ⟨_, rfl, al, xs, rfl, .inl (SqL.of hx3), fun ln nln => ?_⟩
        have s4 := same_new (o := .lst xs) nln
        refine ⟨_, rfl, a, _, dx, _, rfl, s4 _ _ ha3, T.c_Book, T.n_Book_leaks, (by decide : 1 < 1000), ?_⟩
        have ne2 : ln ≠ a := (ne_of_none ha3 nln).symm
        refine ⟨_, rfl, _, rfl, a, _, dx, _, rfl, upd_same, T.c_Book, T.n_Book_rows, (by decide : 2 < 1000), ?_⟩
        have K5 : Kept [a] H3 (upd (upd (upd H3 ln (.lst xs)) a (.ins (CB K) dx (putF "_leaks" (.ref ln) (putF "_party" (.ref pt) [])))) a (.ins (CB K) dx (putF "_rows" (.ref dr) (putF "_leaks" (.ref ln) (putF "_party" (.ref pt) []))))) := ((s4.kept [a]).trans (kept_upd (by simp))).trans (kept_upd (by simp))
        have K6 := k3.trans K5
        have kp : ∀ {b : Addr} {o : HO}, H2 b = some o → (∀ fs, o ≠ .ins (CB K) dx fs) → (upd (upd (upd H3 ln (.lst xs)) a (.ins (CB K) dx (putF "_leaks" (.ref ln) (putF "_party" (.ref pt) [])))) a (.ins (CB K) dx (putF "_rows" (.ref dr) (putF "_leaks" (.ref ln) (putF "_party" (.ref pt) []))))) b = some o := fun e n => K6 _ _ (by simpa using ne (s2 _ _ ha) e n) e
        refine k _ (K3.trans K5) ⟨dx, pt, dr, _, upd_same, rfl, rfl, ?_, ⟨ae, kp e2 (fun _ z => by cases z), fun o ho => kp (q2 o ho) (fun _ z => by cases z)⟩, rfl, rfl⟩
        exact ⟨pdx, ap0, ac, pfs, kvs, K6 _ _ (by simpa using npt) (s2 _ _ p1), p2, p3, kp (s2 _ _ p4) (fun _ z => by cases z), kp (s2 _ _ p5) (fun _ z => by cases z), p6, p7, p8⟩
end
end G
set_option Elab.async false
set_option linter.all false
set_option maxRecDepth 100000
set_option maxHeartbeats 4000000
namespace G
open PySem PySem.Spec PyProof.Rows L2 GM
theorem at0 (x : V) (r : List V) : atI (x :: r) 0 = some x := by
  unfold atI ixN
  simp
theorem rowsK_short {P ord : List Str} {R : Str → List Str} (h : Short P R) : ∀ k : Nat, Short P (rowsK P R ord k)
  | 0 => h
  | k + 1 => by
    have ih := rowsK_short (ord := ord) h k
    cases e : ord[k]? with
    | none =>
      have q : rowsK P R ord (k + 1) = rowsK P R ord k := by
        rw [rowsK, e]
      rw [q]; exact ih
    | some g => rw [rowsK_succ e]; exact ih.fix _ _
noncomputable def least (P : List Str) (R : Str → List Str) (ord : List Str) (g : Str) : Str := (rowsK P R ord ord.length g).headD g
theorem rows_null {H : Hp} {d : Addr} {P : List Str} {R : Str → List Str} (h : RowsU H d P R) : ∃ kvs, H d = some (.dK kvs) := let ⟨_, e, _⟩ := h; ⟨_, e⟩
def spDrawing (K : PySem.W.Frag) : Sp := fun vs H Q _ => ∃ (a : Addr) (P : List Str) (B : List (Str × Str)) (l : List Leak), vs = [.ref a] ∧ BookAt K H a P B l ∧ GoodP P ∧
  ((∃ M, PM P (rowsOf P B l) M) → ∀ (H' : Hp) (p : Addr), Same H H' → Q (.ref p) H') ∧ ((¬ ∃ M, PM P (rowsOf P B l) M) → ∀ H', Same H H' → Q .non H')
def spFirst (K : PySem.W.Frag) : Sp := fun vs H Q _ => ∃ (a : Addr) (P : List Str) (B : List (Str × Str)) (l : List Leak), vs = [.ref a] ∧ BookAt K H a P B l ∧ GoodP P ∧ (∃ M, PM P (rowsOf P B l) M) ∧
  ∀ (H' : Hp) (p : Addr), Same H H' → H' p = some (.dK (dm P (hv (least P (rowsOf P B l) P)))) → Q (.ref p) H'
def spTab (K : PySem.W.Frag) : Sp := fun vs H Q _ => ∃ (a : Addr) (P : List Str) (B : List (Str × Str)) (l : List Leak), vs = [.ref a] ∧ BookAt K H a P B l ∧ GoodP P ∧
  ∀ (H' : Hp) (p : Addr), Same H H' → RowsU H' p P (tblF P (rowsOf P B l)) → Q (.ref p) H'
section
variable {P : Program} {w : World} {K : PySem.W.Frag} {mg : Str → Option Value} {base : Heap}
theorem c_drawing (T : Tx K mg) : C8.Cal P w K mg base 28 "drawing" (spDrawing K) [] := by
  have cP := c_paired (P := P) (w := w) (base := base) T
  have cR := c_bookRows (P := P) (w := w) (base := base) T
  obtain ⟨fd, F, b⟩ := T.f_drawing
  refine ⟨_, fd, _, [], F.ok (k := 27) sc_drawing (fun vs H Q E h => ?_) (fun cdv A outer s H vs Q E hr h => ?_), T.g_drawing, F.kp, b, .nil⟩
  · obtain ⟨_, _, _, _, rfl, _⟩ := h
    rfl
  · obtain ⟨a, P, B, l, rfl, ba, gp, kY, kN⟩ := h
    refine ⟨_, pss_one (ps_ret (C8.pe_c cP hr (Nat.le_refl _) rfl (pa_cons (C8.pe_mt0 cR hr (by decide) (pv 0)) pa_nil))), ?_⟩
    obtain ⟨dx, pt, rw', fs, h1, h2, h3, h4, h5, h6, h7⟩ := id ba
    refine ⟨_, rfl, a, dx, fs, rfl, h1, h7, a, P, B, l, rfl, ba, gp.2.2.1, gp.2.1, fun H1 p s1 np hp => ?_⟩
    exact ⟨p, P, _, rfl, hp, rowsOf_wf gp.2.2.1 B l, gp.2.1, fun M H2 q hM s2 _ _ => kY ⟨M, hM⟩ H2 q (s1.trans s2), fun hn H2 s2 => kN hn H2 (s1.trans s2)⟩
theorem c_table (T : Tx K mg) : C8.Cal P w K mg base 29 "table" (spTab K) [] := by
  have cP := c_table_rows (P := P) (w := w) (base := base) T
  have cR := c_bookRows (P := P) (w := w) (base := base) T
  obtain ⟨fd, F, b⟩ := T.f_table
  refine ⟨_, fd, _, [], F.ok (k := 28) sc_table (fun vs H Q E h => ?_) (fun cdv A outer s H vs Q E hr h => ?_), T.g_table, F.kp, b, .nil⟩
  · obtain ⟨_, _, _, _, rfl, _⟩ := h
    rfl
  · obtain ⟨a, P, B, l, rfl, ba, gp, k⟩ := h
    refine ⟨_, pss_one (ps_ret (C8.pe_c cP hr (Nat.le_refl _) rfl (pa_cons (C8.pe_mt0 cR hr (by decide) (pv 0)) pa_nil))), ?_⟩
    obtain ⟨dx, pt, rw', fs, h1, h2, h3, h4, h5, h6, h7⟩ := id ba
    refine ⟨_, rfl, a, dx, fs, rfl, h1, h7, a, P, B, l, rfl, ba, gp.2.2.1, gp.2.1, fun H1 p s1 np hp => ?_⟩
    exact ⟨p, P, _, rfl, hp, rowsOf_wf gp.2.2.1 B l, gp.2.1, rowsOf_short gp.2.1 B l, fun H2 q hq s2 _ => k H2 q (s1.trans s2) hq⟩
theorem c_first (T : Tx K mg) : C8.Cal P w K mg base 29 "first" (spFirst K) [] := by
  have cP := c_paired (P := P) (w := w) (base := base) T
  have cT := c_table_rows (P := P) (w := w) (base := base) T
  have cF := c_fixed (P := P) (w := w) (base := base) T
  have cR := c_bookRows (P := P) (w := w) (base := base) T
  obtain ⟨fd, F, b⟩ := T.f_first
  refine ⟨_, fd, _, [], F.ok (k := 28) sc_first (fun vs H Q E h => ?_) (fun cdv A outer s H vs Q E hr h => ?_), T.g_first, F.kp, b, .nil⟩
  · obtain ⟨_, _, _, _, rfl, _⟩ := h
    rfl
  · obtain ⟨a, P, B, l, rfl, ba, gp, hM, k⟩ := h
    have hu := hu_of hr
    refine ⟨_, pss_cons (ps_set (i := 1) sc_first.nd rfl (.inr rfl) (C8.pe_mt0 cR hr (by decide) (pv 0)))
      (pss_cons (ps_if (pt_cmp (pc_isN (C8.pe_c cP hr (by decide) rfl (pa_cons (pv 1) pa_nil)))) (pss_one ps_never) pss_nil)
      (pss_cons (ps_for PassesOwn.never rfl (pi_list (pe_callTy (call_listD rfl) (by rfl) T.b_list (by rfl) (pa_cons (pv 1) pa_nil))) (pg_name (i := 2) sc_first.nd rfl (.inl rfl))
        (pss_one (ps_set (i := 1) sc_first.nd rfl (.inr rfl) (C8.pe_c cF hr (by decide) rfl (pa_cons (pv 1) (pa_cons (pv 2) (pa_cons (pe_ix ix_list (pe_dget hu (C8.pe_c cT hr (Nat.le_refl _) rfl (pa_cons (pv 1) pa_nil)) (pv 2) (fun _ _ => rfl)) pe_int (fun _ _ => rfl)) pa_nil)))))))
      (pss_one (ps_ret (pe_lock (pe_dg (tv := tOp (rIxL K) (tDGet (tVar 1) (tVar 2)) (tC (.int 0))) false (Nat.lt_of_succ_lt hu) rfl sc_first.nd (pi_keys (pv 1)) (blkOk_by (own := [("giver", 2)]) (N := N_first) (sc := defScope s_first) (by decide +kernel))
        (fun _ _ _ _ _ => pg_name (i := 2) sc_first.nd rfl (Or.inl rfl)) (fun _ _ _ _ _ => pts_nil) (fun _ _ _ _ _ => pv 2) (fun _ _ _ _ _ => pe_ix ix_list (pe_dget hu (pv 1) (pv 2) (fun _ _ => rfl)) pe_int (fun _ _ => rfl)))))))), ?_⟩
    obtain ⟨dx, pt, rw', fs, h1, h2, h3, h4, h5, h6, h7⟩ := id ba
    have nd := gp.2.2.1
    have lP := gp.2.1
    have wf := rowsOf_wf nd B l
    have sh := rowsOf_short lP B l
    refine ⟨_, rfl, a, dx, fs, rfl, h1, h7, a, P, B, l, rfl, ba, nd, lP, fun H1 p s1 np hp => ?_⟩
    generalize rowsOf P B l = R at hM k wf sh hp
    refine ⟨_, rfl, p, P, R, rfl, hp, wf, lP, fun M H2 q _ s2 nq _ => ?_, fun hn => absurd hM hn⟩
    refine ⟨false, congrArg V.bl (decide_eq_false (fun z => by cases z)), iteF ?_⟩
    have S2 := s1.trans s2
    have hp2 := hp.same s2
    obtain ⟨ad, hd, hL⟩ := id hp2
    refine ⟨_, rfl, p, _, rfl, .inl hd, fun ln nln => ?_⟩
    have ek : ((dm P fun g => V.ref (ad g)).map fun kv => kV kv.1) = txs P := by
      unfold dm txs
      rw [List.map_map]
      rfl
    rw [ek]
    have s3 := same_new (o := .lst (txs P)) nln
    have e3 : upd H2 ln (.lst (txs P)) ln = some (.lst (txs P)) := upd_same
    have S3 := S2.trans s3
    have hp3 := hp2.same s3
    clear hd hL ek
    generalize upd H2 ln (.lst (txs P)) = H3 at s3 e3 S3 hp3 ⊢
    have sub : ∀ x, x ∈ P → x ∈ P := fun _ z => z
    refine ⟨ln, rfl, ⟨_, SqL.of e3⟩, ?_⟩
    refine for_it (walk_list (xs := txs P)) (fun i σ H4 => ∃ (d : Addr) (v2 : Option V), σ = [some (.ref a), some (.ref d), v2] ∧ Same H3 H4 ∧ RowsU H4 d P (rowsK P R P i)) ⟨p, none, rfl, fun _ _ e => e, hp3⟩ (fun i σ H4 _ p => by obtain ⟨_, _, _, s4, _⟩ := p; exact SqL.of (s4 _ _ e3)) ?_ ?_
    · rintro i x σ H4 H5 hi ⟨d, v2, rfl, s4, hd⟩ ⟨rfl, hv⟩
      obtain ⟨g, hg, rfl⟩ := txs_get hv
      have gP := mem_at hg
      obtain ⟨wk, M', hM'⟩ := rowsK_ok wf hM sub i
      obtain ⟨r, er⟩ := pick_cons hM' gP
      refine ⟨_, rfl, _, rfl, _, rfl, d, P, _, rfl, hd, wk, lP, rowsK_short sh i, fun H6 t ht s6 nt => ?_⟩
      obtain ⟨at', ht1, ht2⟩ := id ht
      refine ⟨_, rfl, t, _, rfl, get_dm (.inl ht1) gP, at' g, _, 0, .str (pick P (rowsK P R P i) g), rfl, rfl, SqL.of (ht2 g gP), by rw [er]; exact at0 _ _, ?_⟩
      refine ⟨d, g, _, P, _, rfl, hd.same s6, nd, lP, rowsK_short sh i, fun H7 q7 hq7 s7 n7 => ?_⟩
      refine ⟨q7, _, rfl, (s4.trans s6).trans s7, ?_⟩
      rw [rowsK_succ hg]
      exact hq7
    · rintro σ H4 ⟨d, v2, rfl, s4, hd⟩
      rw [txs_len] at hd
      obtain ⟨ad, hd1, hL⟩ := id hd
      refine ⟨d, _, hd1, trivial, fun od => ⟨_, rfl, d, od, rfl, .inl ⟨_, upd_same, fun D nD => ?_⟩⟩⟩
      have lad : ∀ o, o ∈ P → upd H4 d (.frz od (.dK (dm P fun g => .ref (ad g)))) (ad o) = some (.lst (txs (rowsK P R P P.length o))) := fun o ho => by
        rw [upd_ne (ne_of (hL o ho) hd1 (by intro z; cases z))]
        exact hL o ho
      refine dg_turns (t := false) P.length (fun i H5 => Same (upd H4 d (.frz od (.dK (dm P fun g => .ref (ad g))))) H5 ∧ H5 D = some (.dK (dm (P.take i) (hv (least P R P))))) ⟨same_new nD, upd_same⟩ (fun i H5 hi p => ⟨p.1 _ _ upd_same, by rw [dm_len]; exact hi⟩) (fun H5 p => ⟨p.1 _ _ upd_same, by rw [dm_len]; exact Nat.le_refl _⟩) ?_ ?_
      · rintro i H5 hi ⟨s5, e5⟩ x H6 ⟨rfl, kk, v, hk, rfl⟩
        obtain ⟨g, hg, rfl, rfl⟩ := dm_at hk
        have gP := mem_at hg
        refine ⟨rfl, ?_⟩
        obtain ⟨r, er⟩ := rowsK_last wf hM sub hg (List.getElem?_eq_some_iff.mp hg).1
        have el : least P R P g = pick P (rowsK P R P i) g := by unfold least; rw [er]; rfl
        refine ⟨_, rfl, _, rfl, _, rfl, d, _, rfl, get_dm (.inr ⟨od, s5 _ _ upd_same⟩) gP, ad g, _, 0, .str (least P R P g), rfl, rfl, SqL.of (s5 _ _ (lad g gP)), by rw [er, el]; exact at0 _ _, ?_⟩
        refine ⟨_, DPut.k (k := Sum.inr g) e5 (by rw [dm_len, List.length_take]; exact lt24 (by omega)), s5.put nD, ?_⟩
        rw [upd_same, take_next hg]
        exact congrArg (fun z => some (HO.dK z)) (put_known (f := hv (least P R P)) (not_mem_take nd hg))
      · rintro H5 ⟨s5, e5⟩
        obtain ⟨r1, r2, r3, r4⟩ := behind_lock hd1 nD s5
        rw [List.take_length] at e5
        exact ⟨r1, k _ D ((S3.trans s4).trans r2) (r4 _ e5)⟩
end
end G
set_option Elab.async false
set_option linter.all false
set_option maxRecDepth 100000
set_option maxHeartbeats 4000000
namespace G
open PySem PySem.Spec PyProof.Rows L2 GM
abbrev CE (K : PySem.W.Frag) : Addr := He.ga K "Evening"
def EvAt (K : PySem.W.Frag) (H : Hp) (e : Addr) (P : List Str) (R : Str → List Str) (tk : List (Str × Str)) : Prop :=
  ∃ (dx rw ap tl : Addr) (fs : List (Str × V)) (ts : List V), H e = some (.ins (CE K) dx fs) ∧ fs.lookup ("_rows" : Str) = some (.ref rw) ∧ fs.lookup ("_people" : Str) = some (.ref ap) ∧ fs.lookup ("_taken" : Str) = some (.ref tl) ∧
    RowsU H rw P R ∧ H ap = some (.tup (txs P)) ∧ H tl = some (.lst ts) ∧ Prs H ts tk ∧ fs.lookup ("_offers" : Str) = none ∧ fs.lookup ("may_take" : Str) = none ∧ fs.lookup ("undo" : Str) = none ∧ fs.length < 100
theorem EvAt.same {K : PySem.W.Frag} {H H' : Hp} {e : Addr} {P : List Str} {R : Str → List Str} {tk : List (Str × Str)} (h : EvAt K H e P R tk) (s : Same H H') : EvAt K H' e P R tk :=
  let ⟨dx, rw', ap, tl, fs, ts, h1, h2, h3, h4, h5, h6, h7, h8, h9⟩ := h
  ⟨dx, rw', ap, tl, fs, ts, s _ _ h1, h2, h3, h4, h5.same s, s _ _ h6, s _ _ h7, h8.same s, h9⟩
def Apart (K : PySem.W.Frag) (H : Hp) (e z : Addr) : Prop := ∀ dx fs, H e = some (.ins (CE K) dx fs) → (∀ tl, fs.lookup ("_taken" : Str) = some (.ref tl) → tl ≠ z) ∧ ∀ rw', fs.lookup ("_rows" : Str) = some (.ref rw') → ∀ kvs, H rw' = some (.dK kvs) → ∀ p, p ∈ kvs → p.2 ≠ .ref z
theorem Apart.same {K : PySem.W.Frag} {H H' : Hp} {e z : Addr} {P : List Str} {R : Str → List Str} {tk : List (Str × Str)} (h : EvAt K H e P R tk) (a : Apart K H e z) (s : Same H H') : Apart K H' e z := fun dx fs he => by
  obtain ⟨dx0, rw', ap, tl, fs0, ts, h1, h2, h3, h4, h5, h6, h7, h8, h9⟩ := h
  rw [s _ _ h1] at he
  cases he
  obtain ⟨q1, q2⟩ := a _ _ h1
  refine ⟨q1, fun rw2 l kvs hk p hp => ?_⟩
  rw [h2] at l
  cases l
  obtain ⟨ad, a1, a2⟩ := h5
  rw [s _ _ a1] at hk
  cases hk
  exact q2 rw' h2 _ a1 p hp
theorem EvAt.new {K : PySem.W.Frag} {H : Hp} {e z : Addr} {P : List Str} {R : Str → List Str} {tk : List (Str × Str)} (h : EvAt K H e P R tk) (n : H z = none) : Apart K H e z := fun dx fs he => by
  obtain ⟨dx0, rw', ap, tl, fs0, ts, h1, h2, h3, h4, h5, h6, h7, h8, h9⟩ := h
  rw [h1] at he
  cases he
  refine ⟨fun tl2 l => ?_, fun rw2 l kvs hk p hp => ?_⟩
  · rw [h4] at l
    cases l
    exact ne_of_none h7 n
  · rw [h2] at l
    cases l
    obtain ⟨ad, a1, a2⟩ := h5
    rw [a1] at hk
    cases hk
    obtain ⟨g, hg, e2⟩ := List.mem_map.mp hp
    intro w
    have e3 : V.ref (ad g) = V.ref z := by rw [← w, ← e2]
    have e4 : ad g = z := V.ref.inj e3
    have := a2 g hg
    rw [e4, n] at this
    cases this
theorem EvAt.put {K : PySem.W.Frag} {H : Hp} {e z : Addr} {P : List Str} {R : Str → List Str} {tk : List (Str × Str)} {xs ys : List V} (h : EvAt K H e P R tk) (a : Apart K H e z) (hz : H z = some (.lst xs)) : EvAt K (upd H z (.lst ys)) e P R tk ∧ Apart K (upd H z (.lst ys)) e z := by
  obtain ⟨dx0, rw', ap, tl, fs0, ts, h1, h2, h3, h4, ⟨ad, a1, a2⟩, h6, h7, h8, h9⟩ := h
  obtain ⟨q1, q2⟩ := a _ _ h1
  have st : ∀ {b : Addr} {o : HO}, H b = some o → b ≠ z → upd H z (.lst ys) b = some o := fun {b o} e n => by rw [upd_ne n]; exact e
  have ni : ∀ {b : Addr} {o : HO}, H b = some o → (∀ xs, o ≠ .lst xs) → b ≠ z := fun {b o} e n w => by rw [w, hz] at e; exact n _ (Option.some.inj e).symm
  have e1 := st h1 (ni h1 (fun _ w => by cases w))
  have r1 := st a1 (ni a1 (fun _ w => by cases w))
  refine ⟨⟨dx0, rw', ap, tl, fs0, ts, e1, h2, h3, h4, ⟨ad, r1, fun g hg => st (a2 g hg) (fun w => q2 rw' h2 _ a1 (Sum.inr g, .ref (ad g)) (List.mem_map.mpr ⟨g, hg, rfl⟩) (by rw [w]))⟩, st h6 (ni h6 (fun _ w => by cases w)), st h7 (q1 tl h4), ⟨h8.1, fun i p q => ?_⟩, h9⟩, fun dx fs he => ?_⟩
  · obtain ⟨b, c, d⟩ := h8.2 i p q
    exact ⟨b, c, st d (ni d (fun _ w => by cases w))⟩
  · rw [e1] at he
    cases he
    refine ⟨q1, fun rw2 l kvs hk p hp => ?_⟩
    rw [h2] at l
    cases l
    rw [r1] at hk
    cases hk
    exact q2 rw' h2 _ a1 p hp
def takF (R : Str → List Str) (tk : List (Str × Str)) : Str → List Str := tk.foldl (fun S p => fixF S p.1 p.2) R
theorem takF_snoc (R : Str → List Str) (tk : List (Str × Str)) (p : Str × Str) : takF R (tk ++ [p]) = fixF (takF R tk) p.1 p.2 := by
  unfold takF
  rw [List.foldl_append]
  rfl
theorem takF_wf {P : List Str} {R : Str → List Str} (w : WF P R) : ∀ tk : List (Str × Str), WF P (takF R tk) := fun tk => by
  unfold takF
  induction tk generalizing R with
  | nil => exact w
  | cons p r ih => exact ih (w.fix p.1 p.2)
theorem takF_short {P : List Str} {R : Str → List Str} (w : Short P R) : ∀ tk : List (Str × Str), Short P (takF R tk) := fun tk => by
  unfold takF
  induction tk generalizing R with
  | nil => exact w
  | cons p r ih => exact ih (w.fix p.1 p.2)
def spEvInit (K : PySem.W.Frag) : Sp := fun vs H Q _ => ∃ (e dx a : Addr) (P : List Str) (B : List (Str × Str)) (l : List Leak), vs = [.ref e, .ref a] ∧ H e = some (.ins (CE K) dx []) ∧ BookAt K H a P B l ∧ GoodP P ∧ (∃ M, PM P (rowsOf P B l) M) ∧
  ∀ H', Kept [e] H H' → EvAt K H' e P (rowsOf P B l) [] → Q .non H'
def spEvIn (K : PySem.W.Frag) : Sp := fun vs H Q _ => ∃ (e : Addr) (P : List Str) (R : Str → List Str) (tk : List (Str × Str)) (x : Str), vs = [.ref e, .str x] ∧ EvAt K H e P R tk ∧ Q (.bl (decide (x ∈ tk.map Prod.fst))) H
def spEvLen (K : PySem.W.Frag) : Sp := fun vs H Q _ => ∃ (e : Addr) (P : List Str) (R : Str → List Str) (tk : List (Str × Str)), vs = [.ref e] ∧ EvAt K H e P R tk ∧ Q (.int (tk.length : Nat)) H
def spOffers (K : PySem.W.Frag) : Sp := fun vs H Q _ => ∃ (e : Addr) (P : List Str) (R : Str → List Str) (tk : List (Str × Str)) (g : Str), vs = [.ref e, .str g] ∧ EvAt K H e P R tk ∧ g ∈ P ∧ g ∉ tk.map Prod.fst ∧ WF P R ∧ Short P R ∧ P.length ≤ 24 ∧
  ∀ (H' : Hp) (p : Addr), Same H H' → H' p = some (.lst (txs (tblF P (takF R tk) g))) → Q (.ref p) H'
def spEvCall (K : PySem.W.Frag) : Sp := fun vs H Q _ => ∃ (e : Addr) (P : List Str) (R : Str → List Str) (tk : List (Str × Str)) (g t : Str) (r : List Str), vs = [.ref e, .str g] ∧ EvAt K H e P R tk ∧ g ∈ P ∧ g ∉ tk.map Prod.fst ∧ WF P R ∧ Short P R ∧ P.length ≤ 24 ∧ tk.length ≤ 24 ∧ tblF P (takF R tk) g = t :: r ∧
  ∀ (H' : Hp), Kept [e] H H' → EvAt K H' e P R (tk ++ [(g, t)]) → (∀ z o, H z = some o → Apart K H e z → Apart K H' e z) → Q (.str t) H'
def spUndo (K : PySem.W.Frag) : Sp := fun vs H Q _ => ∃ (e : Addr) (P : List Str) (R : Str → List Str) (tk : List (Str × Str)) (p : Str × Str), vs = [.ref e] ∧ EvAt K H e P R (tk ++ [p]) ∧
  ∀ (H' : Hp) (q : Addr), Kept [e] H H' → EvAt K H' e P R tk → H' q = some (.tup [.str p.1, .str p.2]) → Q (.ref q) H'
section
variable {P : Program} {w : World} {K : PySem.W.Frag} {mg : Str → Option Value} {base : Heap}
theorem c_evIn (T : Tx K mg) : ∃ fd, FnOk P w K mg base C8.CX0 1 (He.ma K (CE K) "__contains__") fd ["self", "person"] (spEvIn K) ∧ Binds K fd ["self", "person"] [] := by
  obtain ⟨fd, F, b⟩ := T.f_Evening_In
  refine ⟨fd, F.ok (k := 0) sc_Evening_In (fun vs H Q E h => ?_) (fun cdv A outer s H vs Q E hr h => ?_), b⟩
  · obtain ⟨_, _, _, _, _, rfl, _⟩ := h
    rfl
  · obtain ⟨e, P, R, tk, x, rfl, ev, k⟩ := h
    refine ⟨_, pss_cons (ps_for PassesOwn.never rfl (pi_list (pe_fld (pv 0) rfl)) (pg_tup rfl (pgs_cons (pg_name (i := 2) sc_Evening_In.nd rfl (.inl rfl)) (pgs_cons (pg_name (i := 3) sc_Evening_In.nd rfl (.inl rfl)) pgs_nil)))
        (pss_one (ps_if (PW.pt (pw_and (pt_val (pe_callB RZ.call_isTy (by rfl) T.b_isinstance (by rfl) (pa_cons (pv 1) (pa_cons (pe_bltn (by rfl) T.b_str (by rfl) (rTy _)) pa_nil)))) (pw_and1 (pt_cmpR op_eq (pv 2) (pv 1) rfl)))) (pss_one (ps_ret pe_bl)) pss_nil)))
      (pss_one (ps_ret pe_bl)), ?_⟩
    obtain ⟨dx, rw', ap, tl, fs, ts, h1, h2, h3, h4, h5, h6, h7, h8, h9⟩ := ev
    refine ⟨_, rfl, e, _, dx, fs, _, rfl, h1, T.c_Evening, T.n_Evening_taken, h4, tl, rfl, ⟨_, SqL.of h7⟩, ?_⟩
    refine for_it (walk_list (xs := ts)) (fun i σ H1 => H1 = H ∧ (∃ v2 v3 : Option V, σ = [some (.ref e), some (.str x), v2, v3]) ∧ x ∉ (tk.take i).map Prod.fst) ⟨rfl, ⟨_, _, rfl⟩, by simp⟩ (fun i σ H1 _ p => by rw [p.1]; exact SqL.of h7) ?_ ?_
    · rintro i v σ H1 H2 hi ⟨rfl, ⟨v2, v3, rfl⟩, nx⟩ ⟨rfl, hv⟩
      obtain ⟨p, q, hp, rfl, hq⟩ := h8.at hv
      refine ⟨q, _, rfl, SqT.of hq, rfl, _, _, rfl, _, _, rfl, rfl, ?_⟩
      refine ⟨_, rfl, _, _, rfl, .str x, true, rfl, iteT ?_⟩
      by_cases c : p.1 = x
      · refine ⟨_, rfl, _, rfl, rfl, true, by simp [c], iteT ?_⟩
        have m : x ∈ tk.map Prod.fst := List.mem_map.mpr ⟨p, mem_at hp, c⟩
        rw [decide_eq_true m] at k
        exact k
      · refine ⟨_, rfl, _, rfl, rfl, false, by simp [c], iteF ⟨rfl, ⟨_, _, rfl⟩, ?_⟩⟩
        rw [take_next hp, List.map_append]
        intro z
        rcases List.mem_append.mp z with z | z
        · exact nx z
        · simp at z
          exact c z.symm
    · rintro σ H1 ⟨rfl, ⟨v2, v3, rfl⟩, nx⟩
      rw [h8.1, List.take_length] at nx
      rw [decide_eq_false nx] at k
      exact k
theorem c_evLen (T : Tx K mg) : ∃ fd, FnOk P w K mg base C8.CX0 1 (He.ma K (CE K) "__len__") fd ["self"] (spEvLen K) ∧ Binds K fd ["self"] [] := by
  obtain ⟨fd, F, b⟩ := T.f_Evening_Len
  refine ⟨fd, F.ok (k := 0) sc_Evening_Len (fun vs H Q E h => ?_) (fun cdv A outer s H vs Q E hr h => ?_), b⟩
  · obtain ⟨_, _, _, _, rfl, _⟩ := h
    rfl
  · obtain ⟨e, P, R, tk, rfl, ev, k⟩ := h
    refine ⟨_, pss_one (ps_ret (pe_callB call_len_seq (by rfl) T.b_len (by rfl) (pa_cons (pe_fld (pv 0) rfl) pa_nil))), ?_⟩
    obtain ⟨dx, rw', ap, tl, fs, ts, h1, h2, h3, h4, h5, h6, h7, h8, h9⟩ := ev
    refine ⟨_, rfl, e, _, dx, fs, _, rfl, h1, T.c_Evening, T.n_Evening_taken, h4, tl, _, rfl, .inl (SqL.of h7), ?_⟩
    rw [h8.1]
    exact k
theorem c_offers (T : Tx K mg) : C8.Met P w K mg base 29 (CE K) "_offers" (spOffers K) [] := by
  have cN := c_check_name (P := P) (w := w) (base := base) T
  have cF := c_fixed (P := P) (w := w) (base := base) T
  have cT := c_table_rows (P := P) (w := w) (base := base) T
  obtain ⟨fdI, FI, bI⟩ := c_evIn (P := P) (w := w) (base := base) T
  obtain ⟨fd, F, b⟩ := T.f_Evening_offers
  refine ⟨_, fd, _, [], T.c_Evening, T.m_Evening_offers, F.ok (k := 28) sc_Evening_offers (fun vs H Q E h => ?_) (fun cdv A outer s H vs Q E hr h => ?_), b, .nil⟩
  · obtain ⟨_, _, _, _, _, rfl, _⟩ := h
    rfl
  · obtain ⟨e, P, R, tk, g, rfl, ev, hg, ng, wf, sh, lP, k⟩ := h
    have hu := hu_of hr
    refine ⟨_, pss_cons (ps_expr (C8.pe_c cN hr (by decide) rfl (pa_cons (pe_fld (pv 0) rfl) (pa_cons (pv 1) pa_nil))))
      (pss_cons (ps_if (pt_cmpR (op_ownIn T.m_Evening_In FI (hr.mono (by decide)) bI pass0) (pv 1) (pv 0) rfl) (pss_one ps_never) pss_nil)
      (pss_cons (ps_set (i := 2) sc_Evening_offers.nd rfl (.inl rfl) (pe_fld (pv 0) rfl))
      (pss_cons (ps_for PassesOwn.never rfl (pi_list (pe_fld (pv 0) rfl)) (pg_tup rfl (pgs_cons (pg_name (i := 3) sc_Evening_offers.nd rfl (.inl rfl)) (pgs_cons (pg_name (i := 4) sc_Evening_offers.nd rfl (.inl rfl)) pgs_nil)))
        (pss_one (ps_set (i := 2) sc_Evening_offers.nd rfl (.inl rfl) (C8.pe_c cF hr (by decide) rfl (pa_cons (pv 2) (pa_cons (pv 3) (pa_cons (pv 4) pa_nil)))))))
      (pss_one (ps_ret (pe_dget hu (C8.pe_c cT hr (Nat.le_refl _) rfl (pa_cons (pv 2) pa_nil)) (pv 1) (fun _ _ => rfl))))))), ?_⟩
    obtain ⟨dx, rw', ap, tl, fs, ts, h1, h2, h3, h4, h5, h6, h7, h8, h9⟩ := id ev
    refine ⟨_, rfl, e, _, dx, fs, _, rfl, h1, T.c_Evening, T.n_Evening_people, h3, _, rfl, ap, P, g, rfl, h6, hg, ?_⟩
    refine ⟨_, rfl, _, rfl, e, dx, fs, rfl, h1, ⟨e, P, R, tk, g, rfl, ev, false, congrArg V.bl (decide_eq_false ng), false, rfl, iteF ?_⟩⟩
    refine ⟨_, rfl, e, _, dx, fs, _, rfl, h1, T.c_Evening, T.n_Evening_rows, h2, ?_⟩
    refine ⟨_, rfl, e, _, dx, fs, _, rfl, h1, T.c_Evening, T.n_Evening_taken, h4, tl, rfl, ⟨_, SqL.of h7⟩, ?_⟩
    refine for_it (walk_list (xs := ts)) (fun i σ H1 => ∃ (d : Addr) (v3 v4 : Option V), σ = [some (.ref e), some (.str g), some (.ref d), v3, v4] ∧ Same H H1 ∧ RowsU H1 d P (takF R (tk.take i))) ⟨rw', none, none, rfl, fun _ _ e => e, h5⟩ (fun i σ H1 _ p => by obtain ⟨_, _, _, _, s1, _⟩ := p; exact SqL.of (s1 _ _ h7)) ?_ ?_
    · rintro i v σ H1 H2 hi ⟨d, v3, v4, rfl, s1, hd⟩ ⟨rfl, hv⟩
      obtain ⟨p, q, hp, rfl, hq⟩ := (h8.same s1).at hv
      refine ⟨q, _, rfl, SqT.of hq, rfl, _, _, rfl, _, _, rfl, rfl, ?_⟩
      refine ⟨_, rfl, _, rfl, _, rfl, d, p.1, p.2, P, _, rfl, hd, wf.nd, lP, takF_short sh _, fun H3 q3 hq3 s3 _ => ⟨q3, _, _, rfl, s1.trans s3, ?_⟩⟩
      rw [take_next hp, takF_snoc]
      exact hq3
    · rintro σ H1 ⟨d, v3, v4, rfl, s1, hd⟩
      rw [h8.1, List.take_length] at hd
      refine ⟨_, rfl, d, P, _, rfl, hd, takF_wf wf _, lP, takF_short sh _, fun H2 q hq s2 _ => ?_⟩
      obtain ⟨ad, hq1, hq2⟩ := hq
      exact ⟨_, rfl, q, _, rfl, get_dm (.inl hq1) hg, k H2 (ad g) (s1.trans s2) (hq2 g hg)⟩
theorem c_may_take (T : Tx K mg) : C8.Met P w K mg base 30 (CE K) "may_take" (spOffers K) [] := by
  have cO := c_offers (P := P) (w := w) (base := base) T
  obtain ⟨fd, F, b⟩ := T.f_Evening_may_take
  refine ⟨_, fd, _, [], T.c_Evening, T.m_Evening_may_take, F.ok (k := 29) sc_Evening_may_take (fun vs H Q E h => ?_) (fun cdv A outer s H vs Q E hr h => ?_), b, .nil⟩
  · obtain ⟨_, _, _, _, _, rfl, _⟩ := h
    rfl
  · have h' := h
    obtain ⟨e, P, R, tk, g, rfl, ev, _⟩ := h
    refine ⟨_, pss_one (ps_ret (C8.pe_mt cO hr (Nat.le_refl _) (pv 0) (pa_cons (pv 1) pa_nil))), ?_⟩
    obtain ⟨dx, rw', ap, tl, fs, ts, h1, h2, h3, h4, h5, h6, h7, h8, h9, h10⟩ := id ev
    exact ⟨_, rfl, e, dx, fs, rfl, h1, h9, _, rfl, h'⟩
end
end G
set_option Elab.async false
set_option linter.all false
set_option maxRecDepth 100000
set_option maxHeartbeats 4000000
namespace G
open PySem PySem.Spec PyProof.Rows L2 GM
theorem putF_len (f : Str) (v : V) : ∀ fs : List (Str × V), (fs.lookup f).isSome = true → (putF f v fs).length = fs.length
  | [], h => by cases h
  | (g, x) :: r, h => by
    unfold putF
    by_cases c : g = f
    · rw [if_pos c]; rfl
    · rw [if_neg c]
      have h2 : (r.lookup f).isSome = true := by
        rw [List.lookup_cons] at h
        rw [show (f == g) = false from beq_eq_false_iff_ne.mpr fun z => c z.symm] at h
        exact h
      show (putF f v r).length + 1 = r.length + 1
      rw [putF_len f v r h2]
theorem EvAt.taken {K : PySem.W.Frag} {H : Hp} {e : Addr} {P : List Str} {R : Str → List Str} {tk tk' : List (Str × Str)} (h : EvAt K H e P R tk) {tl : Addr} {ts : List V} (ht : H tl = some (.lst ts)) (hp : Prs H ts tk') :
    ∃ dx fs, H e = some (.ins (CE K) dx fs) ∧ fs.length < 1000 ∧ EvAt K (upd H e (.ins (CE K) dx (putF "_taken" (.ref tl) fs))) e P R tk' := by
  obtain ⟨dx, rw', ap, tl0, fs, ts0, h1, h2, h3, h4, h5, h6, h7, h8, h9, h10, h11, h12⟩ := h
  refine ⟨dx, fs, h1, by omega, dx, rw', ap, tl, _, ts, upd_same, ?_, ?_, ?_, ?_, ?_, ?_, ?_, ?_, ?_, ?_, ?_⟩
  · rw [lookup_putF, if_neg (by decide)]; exact h2
  · rw [lookup_putF, if_neg (by decide)]; exact h3
  · rw [lookup_putF, if_pos rfl]
  · obtain ⟨ad, a1, a2⟩ := h5
    refine ⟨ad, ?_, fun g hg => ?_⟩
    · rw [upd_ne (ne_of a1 h1 (by intro z; cases z))]; exact a1
    · rw [upd_ne (ne_of (a2 g hg) h1 (by intro z; cases z))]; exact a2 g hg
  · rw [upd_ne (ne_of h6 h1 (by intro z; cases z))]; exact h6
  · rw [upd_ne (ne_of ht h1 (by intro z; cases z))]; exact ht
  · refine ⟨hp.1, fun i p q => ?_⟩
    obtain ⟨a, b, c⟩ := hp.2 i p q
    exact ⟨a, b, by rw [upd_ne (ne_of c h1 (by intro z; cases z))]; exact c⟩
  · rw [lookup_putF, if_neg (by decide)]; exact h9
  · rw [lookup_putF, if_neg (by decide)]; exact h10
  · rw [lookup_putF, if_neg (by decide)]; exact h11
  · rw [putF_len _ _ _ (by rw [h4]; rfl)]; exact h12
theorem Prs.snoc {H : Hp} {ts : List V} {tk : List (Str × Str)} (h : Prs H ts tk) {q : Addr} {p : Str × Str} (hq : H q = some (.tup [.str p.1, .str p.2])) : Prs H (ts ++ [.ref q]) (tk ++ [p]) := by
  refine ⟨by rw [List.length_append, List.length_append, h.1]; rfl, fun i z hz => ?_⟩
  by_cases c : i < tk.length
  · rw [List.getElem?_append_left c] at hz
    obtain ⟨a, b, d⟩ := h.2 i z hz
    exact ⟨a, by rw [List.getElem?_append_left (by rw [h.1]; exact c)]; exact b, d⟩
  · have il : i < (tk ++ [p]).length := (List.getElem?_eq_some_iff.mp hz).1
    rw [List.length_append] at il
    have e : i = tk.length := by simp at il; omega
    rw [List.getElem?_append_right (by omega), e, Nat.sub_self] at hz
    have ez : p = z := Option.some.inj hz
    refine ⟨q, ?_, ez ▸ hq⟩
    rw [List.getElem?_append_right (by rw [h.1]; omega), h.1, e, Nat.sub_self]
    rfl
theorem Prs.front {H : Hp} {ts : List V} {tk : List (Str × Str)} {p : Str × Str} (h : Prs H ts (tk ++ [p])) : ∃ (xs : List V) (q : Addr), ts = xs ++ [.ref q] ∧ H q = some (.tup [.str p.1, .str p.2]) ∧ Prs H xs tk := by
  obtain ⟨q, hq1, hq2⟩ := h.2 tk.length p (by rw [List.getElem?_append_right (Nat.le_refl _), Nat.sub_self]; rfl)
  have hl : ts.length = tk.length + 1 := by rw [h.1, List.length_append]; rfl
  have hne : ts ≠ [] := fun z => by rw [z] at hl; cases hl
  have e1 := List.dropLast_concat_getLast hne
  have e2 : ts.getLast hne = .ref q := by
    have q2 := List.getLast?_eq_getElem? (l := ts)
    rw [hl, Nat.add_sub_cancel, hq1, List.getLast?_eq_some_getLast hne] at q2
    exact Option.some.inj q2
  refine ⟨ts.dropLast, q, by rw [← e2, e1], hq2, by rw [List.length_dropLast, hl]; rfl, fun i z hz => ?_⟩
  have il : i < tk.length := (List.getElem?_eq_some_iff.mp hz).1
  obtain ⟨a, b, c⟩ := h.2 i z (by rw [List.getElem?_append_left il]; exact hz)
  refine ⟨a, ?_, c⟩
  rw [List.getElem?_dropLast, if_pos (by omega)]
  exact b
theorem atLast (xs : List V) (v : V) : atI (xs ++ [v]) (-1) = some v := by
  unfold atI ixN
  rw [if_neg (by decide), if_pos (by rw [List.length_append]; show -(((xs.length + 1 : Nat) : Int)) ≤ -1; omega)]
  show (xs ++ [v])[(-1 + (((xs ++ [v]).length : Nat) : Int)).toNat]? = some v
  have e : (-1 + (((xs ++ [v]).length : Nat) : Int)).toNat = xs.length := by rw [List.length_append]; simp; omega
  rw [e, List.getElem?_append_right (Nat.le_refl _), Nat.sub_self]
  rfl
theorem cutLast (xs : List V) (v : V) : cutV (xs ++ [v]) none (some (-1)) = xs := by
  unfold cutV
  rw [HT.sIx_none, List.drop_zero, Nat.sub_zero]
  have e : HT.sIx (xs ++ [v]).length (xs ++ [v]).length (some (-1)) = xs.length := by
    show (if (-1 : Int) < 0 then (-1 + (((xs ++ [v]).length : Nat) : Int)).toNat else min (-1 : Int).toNat (xs ++ [v]).length) = _
    rw [if_pos (by decide), List.length_append]
    show (-1 + ((xs.length + 1 : Nat) : Int)).toNat = xs.length
    omega
  rw [e, List.take_left]
section
variable {P : Program} {w : World} {K : PySem.W.Frag} {mg : Str → Option Value} {base : Heap}
theorem c_undo (T : Tx K mg) : C8.Met P w K mg base 1 (CE K) "undo" (spUndo K) [] := by
  obtain ⟨fd, F, b⟩ := T.f_Evening_undo
  refine ⟨_, fd, _, [], T.c_Evening, T.m_Evening_undo, F.ok (k := 0) sc_Evening_undo (fun vs H Q E h => ?_) (fun cdv A outer s H vs Q E hr h => ?_), b, .nil⟩
  · obtain ⟨_, _, _, _, _, rfl, _⟩ := h
    rfl
  · obtain ⟨e, P, R, tk, p, rfl, ev, k⟩ := h
    refine ⟨_, pss_cons (ps_if (pt_not (pt_truth (pe_fld (pv 0) rfl) (by intro _; rfl))) (pss_one ps_never) pss_nil)
      (pss_cons (ps_set (i := 1) sc_Evening_undo.nd rfl (.inl rfl) (pe_ix ix_list (pe_fld (pv 0) rfl) (pe_un un_neg pe_int) (fun _ _ => rfl)))
      (pss_cons (ps_fld (pv 0) (pe_slice sl_list (pe_fld (pv 0) rfl) po_none (po_some (pe_un un_neg pe_int))) rfl)
      (pss_one (ps_ret (pv 1))))), ?_⟩
    obtain ⟨dx, rw', ap, tl, fs, ts, h1, h2, h3, h4, h5, h6, h7, h8, h9⟩ := id ev
    obtain ⟨xs, q, rfl, hq, pr⟩ := h8.front
    have hne : (!(xs ++ [V.ref q]).isEmpty) = true := by cases xs <;> rfl
    refine ⟨_, rfl, e, _, dx, fs, _, rfl, h1, T.c_Evening, T.n_Evening_taken, h4, true, .inl ⟨_, SqL.of h7, hne.symm⟩, iteF ?_⟩
    refine ⟨_, rfl, e, _, dx, fs, _, rfl, h1, T.c_Evening, T.n_Evening_taken, h4, 1, rfl, tl, _, _, .ref q, rfl, rfl, SqL.of h7, atLast xs _, ?_⟩
    refine ⟨_, rfl, e, _, dx, fs, _, rfl, h1, T.c_Evening, T.n_Evening_taken, h4, 1, rfl, _, rfl, tl, _, rfl, SqL.of h7, fun n nn => ?_⟩
    rw [cutLast]
    have s1 := same_new (o := .lst xs) nn
    obtain ⟨dx2, fs2, a1, a2, a3⟩ := EvAt.taken (ev.same s1) (upd_same : upd H n (.lst xs) n = some (.lst xs)) (pr.same s1)
    rw [s1 _ _ h1] at a1
    cases a1
    refine ⟨_, rfl, e, _, dx, fs, rfl, s1 _ _ h1, T.c_Evening, T.n_Evening_taken, a2, ?_⟩
    refine ⟨_, rfl, k _ q ((s1.kept [e]).trans (kept_upd (by simp))) a3 ?_⟩
    rw [upd_ne (ne_of (s1 _ _ hq) (s1 _ _ h1) (by intro z; cases z))]
    exact s1 _ _ hq
theorem c_evCall (T : Tx K mg) : ∃ fd, FnOk P w K mg base C8.CX0 30 (He.ma K (CE K) "__call__") fd ["self", "person"] (spEvCall K) ∧ Binds K fd ["self", "person"] [] := by
  have cO := c_offers (P := P) (w := w) (base := base) T
  obtain ⟨fd, F, b⟩ := T.f_Evening_Call
  refine ⟨fd, F.ok (k := 29) sc_Evening_Call (fun vs H Q E h => ?_) (fun cdv A outer s H vs Q E hr h => ?_), b⟩
  · obtain ⟨_, _, _, _, _, _, _, rfl, _⟩ := h
    rfl
  · obtain ⟨e, P, R, tk, g, t, r, rfl, ev, hg, ng, wf, sh, lP, lT, et, k⟩ := h
    refine ⟨_, pss_cons (ps_set (i := 2) sc_Evening_Call.nd rfl (.inl rfl) (pe_ix ix_list (C8.pe_mt cO hr (Nat.le_refl _) (pv 0) (pa_cons (pv 1) pa_nil)) pe_int (fun _ _ => rfl)))
      (pss_cons (ps_fld (pv 0) (pe_op op_cat (pe_fld (pv 0) rfl) (pe_lst (pa_cons (pe_tup (pa_cons (pv 1) (pa_cons (pv 2) pa_nil))) pa_nil))) rfl)
      (pss_one (ps_ret (pv 2)))), ?_⟩
    obtain ⟨dx, rw', ap, tl, fs, ts, h1, h2, h3, h4, h5, h6, h7, h8, h9, h10⟩ := id ev
    refine ⟨_, rfl, e, dx, fs, rfl, h1, h9, _, rfl, e, P, R, tk, g, rfl, ev, hg, ng, wf, sh, lP, fun H1 p s1 hp => ?_⟩
    rw [et] at hp
    refine ⟨p, _, 0, .str t, rfl, rfl, SqL.of hp, at0 _ _, ?_⟩
    refine ⟨_, rfl, e, _, dx, fs, _, rfl, s1 _ _ h1, T.c_Evening, T.n_Evening_taken, h4, _, rfl, _, rfl, (by decide : 2 ≤ sizeLine), fun q nq => ⟨(by decide : 1 ≤ sizeLine), fun n nn => ?_⟩⟩
    have s2 := same_new (o := .tup [.str g, .str t]) nq
    have s3 := same_new (o := .lst [.ref q]) nn
    have S3 := (s1.trans s2).trans s3
    have hq : upd (upd H1 q (.tup [.str g, .str t])) n (.lst [.ref q]) q = some (.tup [.str g, .str t]) := s3 _ _ upd_same
    have hn : upd (upd H1 q (.tup [.str g, .str t])) n (.lst [.ref q]) n = some (.lst [.ref q]) := upd_same
    generalize upd (upd H1 q (.tup [.str g, .str t])) n (.lst [.ref q]) = H3 at S3 hq hn ⊢
    refine ⟨tl, n, ts, _, rfl, rfl, S3 _ _ h7, hn, ?_, fun m nm => ?_⟩
    · rw [h8.1]
      exact small1000 (by show tk.length + 1 ≤ 1000; omega) |> Nat.le_of_lt
    have s4 := same_new (o := .lst (ts ++ [.ref q])) nm
    have S4 := S3.trans s4
    obtain ⟨dx2, fs2, a1, a2, a3⟩ := EvAt.taken (ev.same S4) (upd_same : upd H3 m (.lst (ts ++ [.ref q])) m = some (.lst (ts ++ [.ref q]))) ((h8.same S4).snoc (p := (g, t)) (s4 _ _ hq))
    rw [S4 _ _ h1] at a1
    cases a1
    refine ⟨_, rfl, e, _, dx, fs, rfl, S4 _ _ h1, T.c_Evening, T.n_Evening_taken, a2, ?_⟩
    refine ⟨_, rfl, k _ ((S4.kept [e]).trans (kept_upd (by simp))) a3 fun z o hz apz dx' fs' he' => ?_⟩
    rw [upd_same] at he'
    cases he'
    obtain ⟨q1, q2⟩ := apz dx fs h1
    refine ⟨fun tl' h => ?_, fun rw2 h kvs hk p hp => ?_⟩
    · rw [lookup_putF, if_pos rfl] at h
      cases h
      exact (ne_of_none (S3 _ _ hz) nm).symm
    · rw [lookup_putF, if_neg (by decide), h2] at h
      cases h
      obtain ⟨ad, b1, b2⟩ := h5
      rw [upd_ne (ne_of (S4 _ _ b1) (S4 _ _ h1) (by intro z; cases z)), S4 _ _ b1] at hk
      cases hk
      exact q2 rw' h2 _ b1 p hp
end
end G
set_option Elab.async false
set_option linter.all false
set_option maxRecDepth 100000
set_option maxHeartbeats 4000000
namespace G
open PySem PySem.Spec PyProof.Rows L2 GM
theorem ins_kept {H : Hp} {e dx C : Addr} {fs fs' : List (Str × V)} (he : H e = some (.ins C dx fs)) : ∀ {b : Addr} {o : HO}, H b = some o → b ≠ e → upd H e (.ins C dx fs') b = some o := fun {b o} h n => by rw [upd_ne n]; exact h
section
variable {P : Program} {w : World} {K : PySem.W.Frag} {mg : Str → Option Value} {base : Heap}
theorem c_evInit (T : Tx K mg) : C8.Mak P w K mg base 28 "Evening" (CE K) (spEvInit K) [] := by
  have cP := c_paired (P := P) (w := w) (base := base) T
  have cR := c_bookRows (P := P) (w := w) (base := base) T
  have cY := c_bookParty (P := P) (w := w) (base := base) T
  have cN := c_people (P := P) (w := w) (base := base) T
  obtain ⟨fd, F, b⟩ := T.f_Evening_Init
  refine ⟨_, fd, _, [], T.k_Evening, F.ok (k := 27) sc_Evening_Init (fun vs H Q E h => ?_) (fun cdv A outer s H vs Q E hr h => ?_), T.g_Evening, b, .nil⟩
  · obtain ⟨_, _, _, _, _, _, rfl, _⟩ := h
    rfl
  · obtain ⟨e, dx, a, P, B, l, rfl, he, ba, gp, hM, k⟩ := h
    refine ⟨_, pss_cons (ps_set (i := 2) sc_Evening_Init.nd rfl (.inl rfl) (C8.pe_mt0 cR hr (by decide) (pv 1)))
      (pss_cons (ps_if (pt_cmp (pc_isN (C8.pe_c cP hr (by decide) rfl (pa_cons (pv 2) pa_nil)))) (pss_one ps_never) pss_nil)
      (pss_cons (ps_fld (pv 0) (pv 2) rfl)
      (pss_cons (ps_fld (pv 0) (C8.pe_mt0 cN hr (by decide) (C8.pe_mt0 cY hr (by decide) (pv 1))) rfl)
      (pss_cons (ps_fld (pv 0) (pe_lst pa_nil) rfl)
      (pss_cons (ps_fld (pv 0) (pe_lst pa_nil) rfl)
      (pss_one (ps_fld (pv 0) pe_bl rfl))))))), ?_⟩
    obtain ⟨bdx, pt, brw, bfs, b1, b2, b3, b4, b5, b6, b7⟩ := id ba
    refine ⟨_, rfl, a, bdx, bfs, rfl, b1, b7, a, P, B, l, rfl, ba, gp.2.2.1, gp.2.1, fun H1 r s1 nr hr1 => ?_⟩
    refine ⟨_, rfl, r, P, _, rfl, hr1, rowsOf_wf gp.2.2.1 B l, gp.2.1, fun M H2 q _ s2 nq _ => ?_, fun hn => absurd hM hn⟩
    refine ⟨false, congrArg V.bl (decide_eq_false (fun z => by cases z)), iteF ?_⟩
    have S2 := s1.trans s2
    have he2 := S2 _ _ he
    refine ⟨_, rfl, _, rfl, e, _, dx, _, rfl, he2, T.c_Evening, T.n_Evening_rows, (by decide : 0 < 1000), ?_⟩
    have nae : a ≠ e := fun z => by
      rw [z, he] at b1
      have e3 := (HO.ins.inj (Option.some.inj b1)).2.2
      rw [← e3] at b2
      cases b2
    obtain ⟨pdx, ap, ac, pfs, kvs, p1, p2, p3, p4, p5, p6, p7, p8⟩ := id b4
    have npe : pt ≠ e := fun z => by
      rw [z, he] at p1
      have e3 := (HO.ins.inj (Option.some.inj p1)).2.2
      rw [← e3] at p2
      cases p2
    have q0 : ∀ {b : Addr} {o : HO} {fs : List (Str × V)}, H2 b = some o → b ≠ e → upd H2 e (.ins (CE K) dx fs) b = some o := fun {b o fs} h n => by rw [upd_ne n]; exact h
    have ni : ∀ {b : Addr} {o : HO}, H2 b = some o → (∀ fs, o ≠ .ins (CE K) dx fs) → b ≠ e := fun {b o} h n z => by
      rw [z, he2] at h
      exact n _ (Option.some.inj h).symm
    have r2 := hr1.same s2
    obtain ⟨rad, ra1, ra2⟩ := r2
    have hA : upd H2 e (.ins (CE K) dx (putF "_rows" (.ref r) [])) a = some (.ins (CB K) bdx bfs) := q0 (S2 _ _ b1) nae
    have hPt : PartyAt (CP K) (upd H2 e (.ins (CE K) dx (putF "_rows" (.ref r) []))) pt P B :=
      ⟨pdx, ap, ac, pfs, kvs, q0 (S2 _ _ p1) npe, p2, p3, q0 (S2 _ _ p4) (ni (S2 _ _ p4) (fun _ z => by cases z)), q0 (S2 _ _ p5) (ni (S2 _ _ p5) (fun _ z => by cases z)), p6, p7, p8⟩
    have hRo : RowsU (upd H2 e (.ins (CE K) dx (putF "_rows" (.ref r) []))) r P (rowsOf P B l) :=
      ⟨rad, q0 ra1 (ni ra1 (fun _ z => by cases z)), fun g hg => q0 (ra2 g hg) (ni (ra2 g hg) (fun _ z => by cases z))⟩
    obtain ⟨bad, bb1, bb2⟩ := b5
    have hBk : BookAt K (upd H2 e (.ins (CE K) dx (putF "_rows" (.ref r) []))) a P B l :=
      ⟨bdx, pt, brw, bfs, hA, b2, b3, hPt, ⟨bad, q0 (S2 _ _ bb1) (ni (S2 _ _ bb1) (fun _ z => by cases z)), fun g hg => q0 (S2 _ _ (bb2 g hg)) (ni (S2 _ _ (bb2 g hg)) (fun _ z => by cases z))⟩, b6, b7⟩
    have hE : upd H2 e (.ins (CE K) dx (putF "_rows" (.ref r) [])) e = some (.ins (CE K) dx (putF "_rows" (.ref r) [])) := upd_same
    have K3 : Kept [e] H (upd H2 e (.ins (CE K) dx (putF "_rows" (.ref r) []))) := (S2.kept [e]).trans (kept_upd (by simp))
    generalize upd H2 e (.ins (CE K) dx (putF "_rows" (.ref r) [])) = H3 at hA hPt hRo hBk hE K3 ⊢
    clear q0 ni
    refine ⟨_, rfl, a, bdx, bfs, rfl, hA, b6, a, P, B, l, rfl, hBk, fun pt2 hpt2 => ?_⟩
    obtain ⟨pdx2, ap2, ac2, pfs2, kvs2, p1', p2', p3', p4', p5', p6', p7', p8'⟩ := id hpt2
    refine ⟨pt2, pdx2, pfs2, rfl, p1', p7', pt2, P, B, rfl, hpt2, fun ap3 hap3 => ?_⟩
    refine ⟨_, rfl, e, _, dx, _, rfl, hE, T.c_Evening, T.n_Evening_people, (by decide : 1 < 1000), ?_⟩
    have ni3 : ∀ {b : Addr} {o : HO}, H3 b = some o → (∀ fs, o ≠ .ins (CE K) dx fs) → b ≠ e := fun {b o} h n z => by
      rw [z, hE] at h
      exact n _ (Option.some.inj h).symm
    obtain ⟨rad3, rc1, rc2⟩ := hRo
    have nr3 := ni3 rc1 (fun _ z => by cases z)
    have nr4 : ∀ g, g ∈ P → rad3 g ≠ e := fun g hg => ni3 (rc2 g hg) (fun _ z => by cases z)
    have nap := ni3 hap3 (fun _ z => by cases z)
    generalize ef1 : putF "_people" (V.ref ap3) (putF "_rows" (.ref r) []) = f1
    have K4 : Kept [e] H3 (upd H3 e (.ins (CE K) dx f1)) := kept_upd (by simp)
    have hE4 : upd H3 e (.ins (CE K) dx f1) e = some (.ins (CE K) dx f1) := upd_same
    generalize upd H3 e (.ins (CE K) dx f1) = H4 at K4 hE4 ⊢
    refine ⟨(by decide : 0 ≤ sizeLine), fun tl ntl => ?_⟩
    have s5 := same_new (o := .lst []) ntl
    have hT5 : upd H4 tl (.lst []) tl = some (.lst []) := upd_same
    have ntle : tl ≠ e := (ne_of_none hE4 ntl).symm
    generalize upd H4 tl (.lst []) = H5 at s5 hT5 ⊢
    refine ⟨_, rfl, e, _, dx, f1, rfl, s5 _ _ hE4, T.c_Evening, T.n_Evening_taken, by rw [← ef1]; exact (by decide : 2 < 1000), ?_⟩
    generalize ef2 : putF "_taken" (V.ref tl) f1 = f2
    have K6 : Kept [e] H5 (upd H5 e (.ins (CE K) dx f2)) := kept_upd (by simp)
    have hE6 : upd H5 e (.ins (CE K) dx f2) e = some (.ins (CE K) dx f2) := upd_same
    generalize upd H5 e (.ins (CE K) dx f2) = H6 at K6 hE6 ⊢
    refine ⟨(by decide : 0 ≤ sizeLine), fun kp nkp => ?_⟩
    have s7 := same_new (o := .lst []) nkp
    generalize upd H6 kp (.lst []) = H7 at s7 ⊢
    refine ⟨_, rfl, e, _, dx, f2, rfl, s7 _ _ hE6, T.c_Evening, T.n_Evening_kept, by rw [← ef2, ← ef1]; exact (by decide : 3 < 1000), ?_⟩
    generalize ef3 : putF "_kept" (V.ref kp) f2 = f3
    have K8 : Kept [e] H7 (upd H7 e (.ins (CE K) dx f3)) := kept_upd (by simp)
    have hE8 : upd H7 e (.ins (CE K) dx f3) e = some (.ins (CE K) dx f3) := upd_same
    generalize upd H7 e (.ins (CE K) dx f3) = H8 at K8 hE8 ⊢
    refine ⟨_, rfl, e, _, dx, f3, rfl, hE8, T.c_Evening, T.n_Evening_inside, by rw [← ef3, ← ef2, ← ef1]; exact (by decide : 4 < 1000), ?_⟩
    have K9 : Kept [e] H8 (upd H8 e (.ins (CE K) dx (putF "_inside" (.bl false) f3))) := kept_upd (by simp)
    have hE9 : upd H8 e (.ins (CE K) dx (putF "_inside" (.bl false) f3)) e = some (.ins (CE K) dx (putF "_inside" (.bl false) f3)) := upd_same
    generalize upd H8 e (.ins (CE K) dx (putF "_inside" (.bl false) f3)) = H9 at K9 hE9 ⊢
    have K59 : Kept [e] H5 H9 := ((K6.trans (s7.kept [e])).trans K8).trans K9
    have K39 : Kept [e] H3 H9 := (K4.trans (s5.kept [e])).trans K59
    refine k _ (K3.trans K39) ⟨dx, r, ap3, tl, _, [], hE9, ?_, ?_, ?_, ⟨rad3, K39 _ _ (by simpa using nr3) rc1, fun g hg => K39 _ _ (by simpa using nr4 g hg) (rc2 g hg)⟩, K39 _ _ (by simpa using nap) hap3, K59 _ _ (by simpa using ntle) hT5, ⟨rfl, fun i p q => by cases q⟩, ?_, ?_, ?_, ?_⟩ <;> rw [← ef3, ← ef2, ← ef1] <;> first | rfl | exact (by decide : 5 < 100)
end
end G
set_option Elab.async false
set_option linter.all false
set_option maxRecDepth 100000
set_option maxHeartbeats 4000000
namespace G
open PySem PySem.Spec PyProof.Rows L2 GM
def its (l : List Int) : List V := l.map V.int
theorem its_len (l : List Int) : (its l).length = l.length := List.length_map ..
theorem its_get {l : List Int} {i : Nat} {v : V} (h : (its l)[i]? = some v) : ∃ s, l[i]? = some s ∧ v = .int s := by
  unfold its at h
  rw [List.getElem?_map] at h
  cases e : l[i]? with
  | none => rw [e] at h; cases h
  | some s => rw [e] at h; exact ⟨s, rfl, (Option.some.inj h).symm⟩
theorem its_at {l : List Int} {i : Nat} {s : Int} (h : l[i]? = some s) : (its l)[i]? = some (.int s) := by
  unfold its
  rw [List.getElem?_map, h] <;> rfl
theorem atNat {xs : List V} {i : Nat} {v : V} (h : xs[i]? = some v) : atI xs (i : Int) = some v := by
  have il : i < xs.length := (List.getElem?_eq_some_iff.mp h).1
  unfold atI ixN
  rw [if_pos (by omega), if_pos (by omega)]
  show xs[(i : Int).toNat]? = some v
  rw [Int.toNat_natCast]
  exact h
def D5 (d : Int) : Prop := 0 ≤ d ∧ d < 5040
def spCell (K : PySem.W.Frag) : Sp := fun vs H Q _ => ∃ (a : Addr) (ns : List Int) (k : Nat), vs = [.ref a, .int (k : Nat)] ∧ SqL K H a (its ns) ∧ ∀ c : Int, Q (.int c) H
def spDraws : Sp := fun vs H Q _ => ∃ (c : Int) (n : Nat), vs = [.int c, .int (n : Nat)] ∧ n ≤ 200 ∧ ∀ (H' : Hp) (p : Addr) (ds : List Int), Same H H' → H p = none → H' p = some (.lst (its ds)) → ds.length = n → (∀ d, d ∈ ds → D5 d) → Q (.ref p) H'
section
variable {P : Program} {w : World} {K : PySem.W.Frag} {mg : Str → Option Value} {base : Heap}
theorem c_cell (T : Tx K mg) : C8.Cal P w K mg base 1 "_law_cell" (spCell K) [] := by
  obtain ⟨fd, F, b⟩ := T.f_l_cell
  refine ⟨_, fd, _, [], F.ok (k := 0) sc_l_cell (fun vs H Q E h => ?_) (fun cdv A outer s H vs Q E hr h => ?_), T.g__law_cell, F.kp, b, .nil⟩
  · obtain ⟨_, _, _, rfl, _⟩ := h
    rfl
  · obtain ⟨a, ns, kk, rfl, hs, k⟩ := h
    refine ⟨_, pss_cons (ps_if (pt_cmpR op_lt (pv 1) (pe_callB call_len_seq (by rfl) T.b_len (by rfl) (pa_cons (pv 0) pa_nil)) rfl)
        (pss_one (ps_ret (pe_callTy call_int1 (by rfl) T.b_int (by rfl) (pa_cons (pe_ix ix_list (pv 0) (pv 1) (fun _ _ => rfl)) pa_nil)))) pss_nil)
      (pss_one (ps_ret (pe_op op_add (pe_op op_mul pe_int (pv 1)) (pe_callB call_len_seq (by rfl) T.b_len (by rfl) (pa_cons (pv 0) pa_nil))))), ?_⟩
    by_cases c : kk < ns.length
    · refine ⟨_, rfl, _, rfl, a, _, rfl, .inl hs, _, _, rfl, rfl, true, congrArg V.bl (decide_eq_true (by rw [its_len]; omega)), iteT ?_⟩
      obtain ⟨z, hz⟩ := take_at c
      exact ⟨_, rfl, _, rfl, a, _, _, .int z, rfl, rfl, hs, atNat (its_at hz), .inl ⟨z, rfl, k z⟩⟩
    · refine ⟨_, rfl, _, rfl, a, _, rfl, .inl hs, _, _, rfl, rfl, false, congrArg V.bl (decide_eq_false (by rw [its_len]; omega)), iteF ?_⟩
      exact ⟨_, rfl, _, _, rfl, rfl, .inl (by decide), _, rfl, a, _, rfl, .inl hs, _, _, rfl, rfl, k _⟩
theorem c_draws (T : Tx K mg) : C8.Cal P w K mg base 1 "_law_draws" spDraws [] := by
  obtain ⟨fd, F, b⟩ := T.f_l_draws
  refine ⟨_, fd, _, [], F.ok (k := 0) sc_l_draws (fun vs H Q E h => ?_) (fun cdv A outer s H vs Q E hr h => ?_), T.g__law_draws, F.kp, b, .nil⟩
  · obtain ⟨_, _, rfl, _⟩ := h
    rfl
  · obtain ⟨c, n, rfl, hn, k⟩ := h
    refine ⟨_, pss_cons (ps_set (i := 0) sc_l_draws.nd rfl (.inl rfl) (pe_callTy call_int1 (by rfl) T.b_int (by rfl) (pa_cons (pv 0) pa_nil)))
      (pss_cons (ps_set (i := 2) sc_l_draws.nd rfl (.inl rfl) (pe_cmpR op_ge (pv 0) (pe_op op_pow pe_int pe_int) rfl))
      (pss_cons (ps_set (i := 3) sc_l_draws.nd rfl (.inl rfl) (pe_lst pa_nil))
      (pss_cons (ps_for PassesOwn.never rfl (pi_range1 (by rfl) T.b_range (pa_cons (pv 1) pa_nil)) (pg_name (i := 4) sc_l_draws.nd rfl (.inl rfl))
        (pss_one (ps_if (pt_val (pv 2))
          (pss_cons (ps_expr (pe_bm PySem.F.plainAttrs_list PySem.F.slot_list_append PySem.F.type_list_append mt_append (pv 3) (pa_cons (pe_op op_mod (pe_callTy call_int1 (by rfl) T.b_int (by rfl) (pa_cons (pv 0) pa_nil)) pe_int) pa_nil)))
          (pss_one (ps_set (i := 0) sc_l_draws.nd rfl (.inl rfl) (pe_op op_fdiv (pv 0) pe_int))))
          (pss_cons (ps_set (i := 5) sc_l_draws.nd rfl (.inl rfl) (pe_op op_mod (pe_callTy call_int1 (by rfl) T.b_int (by rfl) (pa_cons (pe_op op_mul (pe_op op_add (pe_op op_add (pv 0) (pe_op op_mul pe_int (pv 4))) pe_int) pe_int) pa_nil)) pe_int))
          (pss_cons (ps_set (i := 5) sc_l_draws.nd rfl (.inl rfl) (pe_op op_mod (pe_callTy call_int1 (by rfl) T.b_int (by rfl) (pa_cons (pe_op op_mul (pv 5) (pe_op op_add (pe_op op_fdiv (pv 5) pe_int) pe_int)) pa_nil)) pe_int))
          (pss_cons (ps_set (i := 5) sc_l_draws.nd rfl (.inl rfl) (pe_op op_mod (pe_callTy call_int1 (by rfl) T.b_int (by rfl) (pa_cons (pe_op op_mul (pv 5) (pe_op op_add (pe_op op_fdiv (pv 5) pe_int) pe_int)) pa_nil)) pe_int))
          (pss_one (ps_expr (pe_bm PySem.F.plainAttrs_list PySem.F.slot_list_append PySem.F.type_list_append mt_append (pv 3) (pa_cons (pe_op op_mod (pe_callTy call_int1 (by rfl) T.b_int (by rfl) (pa_cons (pe_op op_fdiv (pv 5) pe_int) pa_nil)) pe_int) pa_nil))))))))))
      (pss_one (ps_ret (pv 3)))))), ?_⟩
    refine ⟨_, rfl, .inl ⟨c, rfl, ?_⟩⟩
    refine ⟨_, rfl, 10, 18, rfl, rfl, ⟨by decide, by decide, by decide⟩, _, _, rfl, rfl, ?_⟩
    refine ⟨(by decide : 0 ≤ sizeLine), fun l nl => ?_⟩
    refine ⟨_, rfl, n, rfl, by omega, by omega, ?_⟩
    rw [Int.toNat_natCast]
    refine for_it walk_range (fun i σ H1 => ∃ (c' : Int) (ds : List Int) (v4 v5 : Option V), σ = [some (.int c'), some (.int (n : Nat)), some (.bl (decide ((10 : Int) ^ 18 ≤ c))), some (.ref l), v4, v5] ∧ Same H H1 ∧ H1 l = some (.lst (its ds)) ∧ ds.length = i ∧ ∀ d, d ∈ ds → D5 d)
      ⟨c, [], none, none, rfl, same_new nl, upd_same, rfl, fun d hd => by cases hd⟩ (fun _ _ _ _ _ => trivial) ?_ ?_
    · rintro i x σ H1 H2 hi ⟨c', ds, v4, v5, rfl, s1, e1, l1, g1⟩ ⟨rfl, rfl⟩
      have put : ∀ (d : Int), D5 d → Same H (upd H2 l (.lst (its ds ++ [.int d]))) ∧ upd H2 l (.lst (its ds ++ [.int d])) l = some (.lst (its (ds ++ [d]))) ∧ (ds ++ [d]).length = i + 1 ∧ ∀ z, z ∈ ds ++ [d] → D5 z := fun d hd => by
        refine ⟨s1.put nl, ?_, by rw [List.length_append, l1]; rfl, fun z hz => ?_⟩
        · rw [upd_same]
          unfold its
          rw [List.map_append]
          rfl
        · rcases List.mem_append.mp hz with q | q
          · exact g1 z q
          · rw [List.mem_singleton.mp q]; exact hd
      have ll : (its ds).length < sizeLine := by rw [its_len, l1]; exact small1000 (by omega)
      have m5 : ∀ z : Int, D5 (z % 5040) := fun z => ⟨Int.emod_nonneg _ (by decide), Int.emod_lt_of_pos _ (by decide)⟩
      cases hg : decide ((10 : Int) ^ 18 ≤ c) with
      | true =>
        refine ⟨_, rfl, true, rfl, iteT ?_⟩
        refine ⟨_, rfl, .inl ⟨rfl, _, SqL.of e1⟩, _, rfl, .inl ⟨c', rfl, ?_⟩⟩
        refine ⟨_, _, rfl, rfl, (by decide : (0 : Int) < 5040), l, _, _, rfl, rfl, e1, ll, ?_⟩
        refine ⟨_, rfl, _, _, rfl, rfl, ⟨by decide, by decide⟩, ?_⟩
        obtain ⟨p1, p2, p3, p4⟩ := put _ (m5 c')
        exact ⟨_, _, _, _, rfl, p1, p2, p3, p4⟩
      | false =>
        refine ⟨_, rfl, false, rfl, iteF ?_⟩
        refine ⟨_, rfl, _, rfl, _, _, rfl, rfl, .inl (by decide), _, _, rfl, rfl, _, _, rfl, rfl, _, _, rfl, rfl, .inr (by decide), .inl ⟨_, rfl, _, _, rfl, rfl, (by decide : (0 : Int) < 2147483647), ?_⟩⟩
        have b1 : ∀ z : Int, 0 ≤ z % 2147483647 ∧ z % 2147483647 < 2147483647 := fun z => ⟨Int.emod_nonneg _ (by decide), Int.emod_lt_of_pos _ (by decide)⟩
        generalize (c' + 7919 * (0 + (i : Int)) + 1) * 48271 = z0
        have q0 := b1 z0
        generalize z0 % 2147483647 = z1 at q0 ⊢
        refine ⟨_, rfl, _, rfl, _, _, rfl, rfl, ⟨by decide, by decide⟩, _, _, rfl, rfl, _, _, rfl, rfl, .inl ⟨by omega, by omega⟩, .inl ⟨_, rfl, _, _, rfl, rfl, (by decide : (0 : Int) < 2147483647), ?_⟩⟩
        generalize z1 * (z1 / 1009 + 69621) = z2
        have q1 := b1 z2
        generalize z2 % 2147483647 = z3 at q1 ⊢
        refine ⟨_, rfl, _, rfl, _, _, rfl, rfl, ⟨by decide, by decide⟩, _, _, rfl, rfl, _, _, rfl, rfl, .inl ⟨by omega, by omega⟩, .inl ⟨_, rfl, _, _, rfl, rfl, (by decide : (0 : Int) < 2147483399), ?_⟩⟩
        refine ⟨_, rfl, .inl ⟨rfl, _, SqL.of e1⟩, _, rfl, _, _, rfl, rfl, ⟨by decide, by decide⟩, .inl ⟨_, rfl, ?_⟩⟩
        refine ⟨_, _, rfl, rfl, (by decide : (0 : Int) < 5040), l, _, _, rfl, rfl, e1, ll, ?_⟩
        obtain ⟨p1, p2, p3, p4⟩ := put _ (m5 _)
        exact ⟨_, _, _, _, rfl, p1, p2, p3, p4⟩
    · rintro σ H1 ⟨c', ds, v4, v5, rfl, s1, e1, l1, g1⟩
      exact ⟨_, rfl, k H1 l ds s1 nl e1 l1 g1⟩
end
end G
set_option Elab.async false
set_option linter.all false
set_option maxRecDepth 100000
set_option maxHeartbeats 4000000
namespace G
open PySem PySem.Spec PyProof.Rows L2 GM
theorem len_cps (x : Str) : x.length = x.cps.size := rfl
theorem cat_cps (x y : Str) : (x ++ y).cps = x.cps ++ y.cps := rfl
def fb (k : Nat) : Str := ("zzzzzzz" : Str) ++ ⟨#[97 + k]⟩
theorem z7 : ("zzzzzzz" : Str).cps = #[122, 122, 122, 122, 122, 122, 122] := by decide +kernel
theorem fb_cps (k : Nat) : (fb k).cps = #[122, 122, 122, 122, 122, 122, 122, 97 + k] := by
  unfold fb
  rw [cat_cps, z7]
  rfl
theorem letters_at : ∀ k, k < 26 → letters.cps.toList[k]? = some (97 + k) := by decide +kernel
theorem letters_len : letters.cps.toList.length = 26 := by decide +kernel
theorem letters_mem {c : Nat} (h : 97 ≤ c) (h2 : c < 123) : c ∈ letters.cps.toList := by
  have := letters_at (c - 97) (by omega)
  rw [show 97 + (c - 97) = c by omega] at this
  exact List.mem_of_getElem? this
theorem fb_nm {k : Nat} (h : k < 26) : Nm (fb k) := by
  refine ⟨by rw [len_cps, fb_cps]; exact (by decide : 1 ≤ 8), by rw [len_cps, fb_cps]; exact (by decide : 8 ≤ 8), fun i c e => ?_⟩
  rw [fb_cps] at e
  have il : i < 8 := by
    have := (Array.getElem?_eq_some_iff.mp e).1
    exact this
  match i, il with
  | 0, _ =>
    have e2 : 122 = c := Option.some.inj e
    exact letters_mem (by omega) (by omega)
  | 1, _ =>
    have e2 : 122 = c := Option.some.inj e
    exact letters_mem (by omega) (by omega)
  | 2, _ =>
    have e2 : 122 = c := Option.some.inj e
    exact letters_mem (by omega) (by omega)
  | 3, _ =>
    have e2 : 122 = c := Option.some.inj e
    exact letters_mem (by omega) (by omega)
  | 4, _ =>
    have e2 : 122 = c := Option.some.inj e
    exact letters_mem (by omega) (by omega)
  | 5, _ =>
    have e2 : 122 = c := Option.some.inj e
    exact letters_mem (by omega) (by omega)
  | 6, _ =>
    have e2 : 122 = c := Option.some.inj e
    exact letters_mem (by omega) (by omega)
  | 7, _ =>
    have e2 : 97 + k = c := Option.some.inj e
    exact letters_mem (by omega) (by omega)
theorem fb_inj {j k : Nat} (h : fb j = fb k) : j = k := by
  have e : (fb j).cps[7]? = (fb k).cps[7]? := by rw [h]
  rw [fb_cps, fb_cps] at e
  have e2 : 97 + j = 97 + k := Option.some.inj e
  omega
theorem fb_not {x : Str} (h : x.length = 8 → x.cps[5]? = some 97) (k : Nat) : x ≠ fb k := fun e => by
  have l : x.length = 8 := by rw [e, len_cps, fb_cps]; rfl
  have q := h l
  rw [e, fb_cps] at q
  have : (122 : Nat) = 97 := Option.some.inj q
  omega
def Spell (j : Nat) (m : Int) (x : Str) : Prop := x.length = j ∧ (∀ (i c : Nat), x.cps[i]? = some c → c ∈ letters.cps.toList) ∧ 0 ≤ m ∧ m * 26 ^ j ≤ 3175199 ∧ (6 ≤ j → x.cps[5]? = some 97)
theorem Spell.next {j : Nat} {m : Int} {x : Str} (h : Spell j m x) : ∃ c : Nat, atI letters.cps.toList (m % 26) = some c ∧ Spell (j + 1) (m / 26) (x ++ ⟨#[c]⟩) := by
  obtain ⟨h1, h2, h3, h4, h5⟩ := h
  have r0 : 0 ≤ m % 26 := Int.emod_nonneg _ (by decide)
  have r1 : m % 26 < 26 := Int.emod_lt_of_pos _ (by decide)
  obtain ⟨k, hk⟩ : ∃ k : Nat, m % 26 = k := ⟨(m % 26).toNat, by omega⟩
  have kl : k < 26 := by omega
  have e : letters.cps.toList[k]? = some (97 + k) := letters_at k kl
  refine ⟨97 + k, ?_, ?_, ?_, ?_, ?_, ?_⟩
  · rw [hk]
    unfold atI ixN
    rw [letters_len, if_pos (by omega), if_pos (by omega)]
    show letters.cps.toList[(k : Int).toNat]? = _
    rw [Int.toNat_natCast, e]
  · rw [len_cps, cat_cps, Array.size_append]
    rw [len_cps] at h1
    rw [h1]
    rfl
  · intro i c q
    rw [cat_cps] at q
    by_cases il : i < x.cps.size
    · rw [Array.getElem?_append_left il] at q
      exact h2 i c q
    · have q2 := (Array.getElem?_eq_some_iff.mp q).1
      rw [Array.size_append] at q2
      have e2 : i = x.cps.size := by
        have q3 : i < x.cps.size + 1 := q2
        omega
      rw [Array.getElem?_append_right (by omega), e2, Nat.sub_self] at q
      have q3 : 97 + k = c := Option.some.inj q
      exact letters_mem (by omega) (by omega)
  · exact Int.ediv_nonneg h3 (by decide)
  · have d1 : m / 26 * 26 ≤ m := Int.ediv_mul_le m (by decide)
    have p0 : (0 : Int) ≤ 26 ^ j := Int.pow_nonneg (by decide)
    have e2 : (26 : Int) ^ (j + 1) = 26 * 26 ^ j := by rw [Int.pow_succ, Int.mul_comm]
    rw [e2, ← Int.mul_assoc]
    exact Int.le_trans (Int.mul_le_mul_of_nonneg_right d1 p0) h4
  · intro h6
    by_cases j6 : 6 ≤ j
    · rw [cat_cps, Array.getElem?_append_left (by rw [← len_cps, h1]; omega)]
      exact h5 j6
    · have j5 : j = 5 := by omega
      subst j5
      have m0 : m = 0 := by
        have : (26 : Int) ^ 5 = 11881376 := by decide
        rw [this] at h4
        omega
      subst m0
      have k0 : k = 0 := by
        have : (0 : Int) % 26 = 0 := by decide
        omega
      subst k0
      rw [len_cps] at h1
      rw [cat_cps, Array.getElem?_append_right (by omega), h1]
      rfl
theorem Spell.nm {j : Nat} {m : Int} {x : Str} (h : Spell j m x) (h1 : 1 ≤ j) (h8 : j ≤ 8) : Nm x ∧ ∀ k, x ≠ fb k :=
  ⟨⟨by rw [h.1]; exact h1, by rw [h.1]; exact h8, h.2.1⟩, fb_not fun e => h.2.2.2.2 (by have := h.1; omega)⟩
def spNames : Sp := fun vs H Q _ => ∃ (c : Int) (n : Nat), vs = [.int c, .int (n : Nat)] ∧ n ≤ 24 ∧ ∀ (H' : Hp) (p : Addr) (P : List Str), Same H H' → H p = none → H' p = some (.lst (txs P)) → P.length = n → P.Nodup → (∀ x, x ∈ P → Nm x) → Q (.ref p) H'
section
variable {P : Program} {w : World} {K : PySem.W.Frag} {mg : Str → Option Value} {base : Heap}
theorem c_names (T : Tx K mg) : C8.Cal P w K mg base 2 "_law_people" spNames [] := by
  have cD := c_draws (P := P) (w := w) (base := base) T
  obtain ⟨fd, F, b⟩ := T.f_l_people
  refine ⟨_, fd, _, [], F.ok (k := 1) sc_l_people (fun vs H Q E h => ?_) (fun cdv A outer s H vs Q E hr h => ?_), T.g__law_people, F.kp, b, .nil⟩
  · obtain ⟨_, _, rfl, _⟩ := h
    rfl
  · obtain ⟨c, n, rfl, hn, k⟩ := h
    refine ⟨_, pss_cons (ps_set (i := 2) sc_l_people.nd rfl (.inl rfl) pe_str)
      (pss_cons (ps_set (i := 3) sc_l_people.nd rfl (.inl rfl) (C8.pe_c cD hr (Nat.le_refl _) rfl (pa_cons (pv 0) (pa_cons (pe_op op_mul pe_int (pv 1)) pa_nil))))
      (pss_cons (ps_set (i := 4) sc_l_people.nd rfl (.inl rfl) (pe_lst pa_nil))
      (pss_cons (ps_for PassesOwn.never rfl (pi_range1 (by rfl) T.b_range (pa_cons (pv 1) pa_nil)) (pg_name (i := 5) sc_l_people.nd rfl (.inl rfl))
        (pss_cons (ps_set (i := 6) sc_l_people.nd rfl (.inl rfl) (pe_op op_add (pe_op op_mul (pe_ix ix_list (pv 3) (pe_op op_mul pe_int (pv 5)) (fun _ _ => rfl)) pe_int) (pe_ix ix_list (pv 3) (pe_op op_add (pe_op op_mul pe_int (pv 5)) pe_int) (fun _ _ => rfl))))
        (pss_cons (ps_set (i := 7) sc_l_people.nd rfl (.inl rfl) (pe_op op_add pe_int (pe_op op_mod (pe_callTy call_int1 (by rfl) T.b_int (by rfl) (pa_cons (pv 6) pa_nil)) pe_int)))
        (pss_cons (ps_set (i := 6) sc_l_people.nd rfl (.inl rfl) (pe_op op_fdiv (pv 6) pe_int))
        (pss_cons (ps_set (i := 8) sc_l_people.nd rfl (.inl rfl) pe_str)
        (pss_cons (ps_for PassesOwn.never rfl (pi_range1 (by rfl) T.b_range (pa_cons (pv 7) pa_nil)) (pg_name (i := 9) sc_l_people.nd rfl (.inl rfl))
          (pss_cons (ps_set (i := 8) sc_l_people.nd rfl (.inl rfl) (pe_op op_add_str (pv 8) (pe_ix ix_str (pv 2) (pe_op op_mod (pe_callTy call_int1 (by rfl) T.b_int (by rfl) (pa_cons (pv 6) pa_nil)) pe_int) (fun _ _ => rfl))))
          (pss_one (ps_set (i := 6) sc_l_people.nd rfl (.inl rfl) (pe_op op_fdiv (pv 6) pe_int)))))
        (pss_cons (ps_if (pt_cmpR op_in_seq (pv 8) (pv 4) rfl) (pss_one (ps_set (i := 8) sc_l_people.nd rfl (.inl rfl) (pe_op op_add_str pe_str (pe_ix ix_str (pv 2) (pv 5) (fun _ _ => rfl))))) pss_nil)
        (pss_one (ps_expr (pe_bm PySem.F.plainAttrs_list PySem.F.slot_list_append PySem.F.type_list_append mt_append (pv 4) (pa_cons (pv 8) pa_nil)))))))))))
      (pss_one (ps_ret (pv 4)))))), ?_⟩
    refine ⟨_, rfl, _, rfl, _, _, rfl, rfl, .inl (by decide), c, 2 * n, ?_, by omega, fun H1 dp ds s1 ndp edp lds gds => ?_⟩
    · rw [Int.natCast_mul]; rfl
    refine ⟨(by decide : 0 ≤ sizeLine), fun l nl => ?_⟩
    refine ⟨_, rfl, n, rfl, by omega, by omega, ?_⟩
    rw [Int.toNat_natCast]
    have s2 := same_new (o := .lst []) nl
    refine for_it walk_range (fun i σ H3 => ∃ (P : List Str) (v5 v6 v7 v8 v9 : Option V), σ = [some (.int c), some (.int (n : Nat)), some (.str letters), some (.ref dp), some (.ref l), v5, v6, v7, v8, v9] ∧ Same H1 H3 ∧ H3 l = some (.lst (txs P)) ∧ P.length = i ∧ P.Nodup ∧ (∀ x, x ∈ P → Nm x) ∧ ∀ x, x ∈ P → ∀ j, i ≤ j → x ≠ fb j)
      ⟨[], none, none, none, none, none, rfl, s2, upd_same, rfl, List.nodup_nil, by simp, by simp⟩ (fun _ _ _ _ _ => trivial) ?_ ?_
    · rintro i x σ H3 H4 hi ⟨P, v5, v6, v7, v8, v9, rfl, s3, e3, lP, nP, gP, fP⟩ ⟨rfl, rfl⟩
      have ed := s3 _ _ edp
      obtain ⟨d1, hd1⟩ := take_at (P := ds) (i := 2 * i) (by omega)
      obtain ⟨d2, hd2⟩ := take_at (P := ds) (i := 2 * i + 1) (by omega)
      have g1 := gds d1 (mem_at hd1)
      have g2 := gds d2 (mem_at hd2)
      refine ⟨_, rfl, _, rfl, _, _, rfl, rfl, .inl (by decide), dp, _, ((2 * i : Nat) : Int), .int d1, rfl, (congrArg V.int (by omega) : V.int (2 * (0 + (i : Int))) = _), SqL.of ed, atNat (its_at hd1), ?_⟩
      refine ⟨_, _, rfl, rfl, .inr (by decide), ?_⟩
      refine ⟨_, rfl, _, rfl, _, _, rfl, rfl, .inl (by decide), _, _, rfl, rfl, dp, _, ((2 * i + 1 : Nat) : Int), .int d2, rfl, (congrArg V.int (by omega) : V.int (2 * (0 + (i : Int)) + 1) = _), SqL.of ed, atNat (its_at hd2), ?_⟩
      refine ⟨_, _, rfl, rfl, ?_⟩
      have N0 : 0 ≤ d1 * 5040 + d2 ∧ d1 * 5040 + d2 ≤ 25401599 := by
        obtain ⟨a1, a2⟩ := g1
        obtain ⟨a3, a4⟩ := g2
        omega
      have eN : ∃ N, N = d1 * 5040 + d2 := ⟨_, rfl⟩
      obtain ⟨N, eN⟩ := eN
      rw [← eN] at N0
      refine ⟨_, rfl, .inl ⟨_, rfl, _, _, rfl, rfl, (by decide : (0 : Int) < 8), _, _, rfl, rfl, ?_⟩⟩
      refine ⟨_, rfl, _, _, rfl, rfl, ⟨by decide, by decide⟩, ?_⟩
      have z0 : 0 ≤ N % 8 := Int.emod_nonneg _ (by decide)
      have z1 : N % 8 < 8 := Int.emod_lt_of_pos _ (by decide)
      obtain ⟨sz, hsz⟩ : ∃ sz : Nat, 1 + N % 8 = sz := ⟨(1 + N % 8).toNat, by omega⟩
      have sp0 : Spell 0 (N / 8) ("" : Str) := ⟨rfl, fun i c (e : (#[] : Array Nat)[i]? = some c) => (by simp at e), by omega, by show N / 8 * 1 ≤ 3175199; omega, fun (z : 6 ≤ 0) => absurd z (by decide)⟩
      rw [eN] at hsz sp0
      refine ⟨_, rfl, _, congrArg (fun z => [V.int z]) hsz, by omega, by omega, ?_⟩
      rw [Int.toNat_natCast]
      have low := small1000 (show 100 ≤ 1000 by decide)
      refine for_it walk_range (fun j σ H5 => ∃ (m : Int) (x : Str) (v7 v9 : Option V), σ = [some (.int c), some (.int (n : Nat)), some (.str letters), some (.ref dp), some (.ref l), some (.int (0 + (i : Int))), some (.int m), v7, some (.str x), v9] ∧ H5 = H4 ∧ Spell j m x)
        ⟨_, _, _, v9, rfl, rfl, sp0⟩ (fun _ _ _ _ _ => trivial) ?_ ?_
      · rintro j y σ H5 H6 hj ⟨m, x, v7', v9', rfl, rfl, sp⟩ ⟨rfl, rfl⟩
        obtain ⟨ch, h1, h2⟩ := sp.next
        have xl : x.length ≤ 8 := by have := sp.1; omega
        refine ⟨_, rfl, _, rfl, _, rfl, .inl ⟨_, rfl, _, _, rfl, rfl, (by decide : (0 : Int) < 26), letters, _, ch, rfl, rfl, ?_, h1, ?_⟩⟩
        · rw [len_cps, show letters.cps.size = 26 from letters_len]; omega
        refine ⟨x, ⟨#[ch]⟩, rfl, rfl, ?_, ?_⟩
        · show x.length + 1 ≤ sizeLine
          omega
        refine ⟨_, rfl, _, _, rfl, rfl, ⟨by decide, by decide⟩, ?_⟩
        exact ⟨_, _, _, _, rfl, rfl, h2⟩
      · rintro σ H5 ⟨m, x, v7', v9', rfl, rfl, sp⟩
        obtain ⟨nx, fx⟩ := sp.nm (by omega) (by omega)
        have fin : ∀ z : Str, Nm z → z ∉ P → (∀ j, i + 1 ≤ j → z ≠ fb j) → Same H1 (upd H5 l (.lst (txs P ++ [.str z]))) ∧ upd H5 l (.lst (txs P ++ [.str z])) l = some (.lst (txs (P ++ [z]))) ∧ (P ++ [z]).length = i + 1 ∧ (P ++ [z]).Nodup ∧ (∀ x, x ∈ P ++ [z] → Nm x) ∧ ∀ x, x ∈ P ++ [z] → ∀ j, i + 1 ≤ j → x ≠ fb j := fun z hz nz fz => by
          refine ⟨s3.put nl, ?_, by rw [List.length_append, lP]; rfl, nodup_snoc nP nz, fun x hx => ?_, fun x hx j hj => ?_⟩
          · rw [upd_same]
            unfold txs
            rw [List.map_append]
            rfl
          · exact (mem_snoc.mp hx).elim (fun e => e ▸ hz) (gP x)
          · exact (mem_snoc.mp hx).elim (fun e => e ▸ fz j hj) (fun q => fP x q j (by omega))
        have ll : (txs P).length < sizeLine := by rw [txs_len, lP]; omega
        refine ⟨_, rfl, _, rfl, l, _, rfl, .inl (SqL.of e3), rfl, flat_txs _, ?_⟩
        by_cases cx : x ∈ P
        · refine ⟨true, by rw [inV_txs, decide_eq_true cx]; rfl, iteT ?_⟩
          have il : i < 26 := by omega
          refine ⟨_, rfl, _, rfl, letters, _, 97 + i, rfl, rfl, ?_, ?_, ?_⟩
          · rw [len_cps, show letters.cps.size = 26 from letters_len]; omega
          · have e : (0 + (i : Int)) = (i : Int) := by omega
            rw [e]
            unfold atI ixN
            rw [letters_len, if_pos (by omega), if_pos (by omega)]
            show letters.cps.toList[(i : Int).toNat]? = _
            rw [Int.toNat_natCast, letters_at i il]
          refine ⟨_, _, rfl, rfl, ?_, ?_⟩
          · show 7 + 1 ≤ sizeLine
            omega
          refine ⟨_, rfl, .inl ⟨rfl, _, SqL.of e3⟩, _, rfl, l, _, _, rfl, rfl, e3, ll, ?_⟩
          obtain ⟨p1, p2, p3, p4, p5, p6⟩ := fin (fb i) (fb_nm il) (fun z => fP _ z i (Nat.le_refl _) rfl) (fun j hj e => by have := fb_inj e; omega)
          exact ⟨_, _, _, _, _, _, rfl, p1, p2, p3, p4, p5, p6⟩
        · refine ⟨false, by rw [inV_txs, decide_eq_false cx]; rfl, iteF ?_⟩
          refine ⟨_, rfl, .inl ⟨rfl, _, SqL.of e3⟩, _, rfl, l, _, _, rfl, rfl, e3, ll, ?_⟩
          obtain ⟨p1, p2, p3, p4, p5, p6⟩ := fin x nx cx (fun j _ => fx j)
          exact ⟨_, _, _, _, _, _, rfl, p1, p2, p3, p4, p5, p6⟩
    · rintro σ H3 ⟨P, v5, v6, v7, v8, v9, rfl, s3, e3, lP, nP, gP, fP⟩
      exact ⟨_, rfl, k H3 l P (s1.trans s3) (s1.free nl) e3 lP nP gP⟩
end
end G
set_option Elab.async false
set_option linter.all false
set_option maxRecDepth 100000
set_option maxHeartbeats 4000000
namespace G
open PySem PySem.Spec PyProof.Rows L2 GM
theorem modlt {z : Int} {n : Nat} (h : 0 < n) : ∃ k : Nat, z % (n : Int) = k ∧ k < n := by
  have a := Int.emod_nonneg z (show (n : Int) ≠ 0 by omega)
  have b := Int.emod_lt_of_pos z (show (0 : Int) < n by omega)
  exact ⟨(z % n).toNat, by omega, by omega⟩
theorem atI_some {xs : List V} {z : Int} {k : Nat} {v : V} (e : z = k) (h : xs[k]? = some v) : atI xs z = some v := by rw [e]; exact atNat h
theorem Prs.rev {H : Hp} {ts : List V} {tk : List (Str × Str)} (h : Prs H ts tk) : Prs H ts.reverse tk.reverse := by
  refine ⟨by rw [List.length_reverse, List.length_reverse, h.1], fun i p e => ?_⟩
  have il : i < tk.length := by
    have := (List.getElem?_eq_some_iff.mp e).1
    rw [List.length_reverse] at this
    exact this
  rw [List.getElem?_reverse il] at e
  obtain ⟨q, a, b⟩ := h.2 _ p e
  refine ⟨q, ?_, b⟩
  rw [List.getElem?_reverse (by rw [h.1]; exact il), h.1]
  exact a
theorem GoodB.rev {P : List Str} {B : List (Str × Str)} (h : GoodB P B) : GoodB P B.reverse := ⟨by rw [List.length_reverse]; exact h.1, fun p hp => h.2 p (List.mem_reverse.mp hp)⟩
def spBarred : Sp := fun vs H Q _ => ∃ (c : Int) (pl : Addr) (P : List Str), vs = [.int c, .ref pl] ∧ H pl = some (.lst (txs P)) ∧ 2 ≤ P.length ∧ P.length ≤ 12 ∧
  ∀ (H' : Hp) (p : Addr) (xs : List V) (B : List (Str × Str)), Same H H' → H' p = some (.lst xs) → Prs H' xs B → GoodB P B → Q (.ref p) H'
section
variable {P : Program} {w : World} {K : PySem.W.Frag} {mg : Str → Option Value} {base : Heap}
theorem c_barred (T : Tx K mg) : C8.Cal P w K mg base 2 "_law_barred" spBarred [] := by
  have cD := c_draws (P := P) (w := w) (base := base) T
  obtain ⟨fd, F, b⟩ := T.f_l_barred
  refine ⟨_, fd, _, [], F.ok (k := 1) sc_l_barred (fun vs H Q E h => ?_) (fun cdv A outer s H vs Q E hr h => ?_), T.g__law_barred, F.kp, b, .nil⟩
  · obtain ⟨_, _, _, rfl, _⟩ := h
    rfl
  · obtain ⟨c, pl, P, rfl, hp, l2, l12, k⟩ := h
    refine ⟨_, pss_cons (ps_set (i := 2) sc_l_barred.nd rfl (.inl rfl) (pe_callB call_len_seq (by rfl) T.b_len (by rfl) (pa_cons (pv 1) pa_nil)))
      (pss_cons (ps_set (i := 3) sc_l_barred.nd rfl (.inl rfl) (C8.pe_c cD hr (Nat.le_refl _) rfl (pa_cons (pv 0) (pa_cons (pe_op op_add (pe_op op_mul (pv 2) (pv 2)) pe_int) pa_nil))))
      (pss_cons (ps_set (i := 4) sc_l_barred.nd rfl (.inl rfl) (pe_ix ix_list (pe_lst (pa_cons pe_int (pa_cons pe_int (pa_cons pe_int (pa_cons pe_int (pa_cons pe_int (pa_cons pe_int pa_nil))))))) (pe_op op_mod (pe_callTy call_int1 (by rfl) T.b_int (by rfl) (pa_cons (pe_ix ix_list (pv 3) pe_int (fun _ _ => rfl)) pa_nil)) pe_int) (fun _ _ => rfl)))
      (pss_cons (ps_set (i := 5) sc_l_barred.nd rfl (.inl rfl) (pe_lst pa_nil))
      (pss_cons (ps_for PassesOwn.never rfl (pi_range1 (by rfl) T.b_range (pa_cons (pe_op op_mul (pv 2) (pv 2)) pa_nil)) (pg_name (i := 6) sc_l_barred.nd rfl (.inl rfl))
        (pss_cons (ps_set (i := 7) sc_l_barred.nd rfl (.inl rfl) (pe_ix ix_list (pv 1) (pe_op op_fdiv (pv 6) (pv 2)) (fun _ _ => rfl)))
        (pss_cons (ps_set (i := 8) sc_l_barred.nd rfl (.inl rfl) (pe_ix ix_list (pv 1) (pe_op op_mod (pe_callTy call_int1 (by rfl) T.b_int (by rfl) (pa_cons (pv 6) pa_nil)) (pv 2)) (fun _ _ => rfl)))
        (pss_one (ps_if (PW.pt (pw_and (pt_cmpR op_ne (pv 7) (pv 8) rfl) (pw_and1 (pt_cmpR op_lt (pe_op op_mod (pe_callTy call_int1 (by rfl) T.b_int (by rfl) (pa_cons (pe_ix ix_list (pv 3) (pe_op op_add (pv 6) pe_int) (fun _ _ => rfl)) pa_nil)) pe_int) (pv 4) rfl))))
          (pss_one (ps_expr (pe_bm PySem.F.plainAttrs_list PySem.F.slot_list_append PySem.F.type_list_append mt_append (pv 5) (pa_cons (pe_tup (pa_cons (pv 7) (pa_cons (pv 8) pa_nil))) pa_nil)))) pss_nil)))))
      (pss_cons (ps_if (pt_cmpR op_eq (pe_op op_mod (pe_callTy call_int1 (by rfl) T.b_int (by rfl) (pa_cons (pe_op op_fdiv (pe_ix ix_list (pv 3) pe_int (fun _ _ => rfl)) pe_int) pa_nil)) pe_int) pe_int rfl)
        (pss_one (ps_set (i := 5) sc_l_barred.nd rfl (.inl rfl) (pe_revL (pv 5)))) pss_nil)
      (pss_one (ps_ret (pv 5)))))))), ?_⟩
    have n144 : P.length * P.length ≤ 144 := Nat.mul_le_mul l12 l12
    refine ⟨_, rfl, pl, _, rfl, .inl (SqL.of hp), ?_⟩
    rw [txs_len]
    refine ⟨_, rfl, _, rfl, _, rfl, _, _, rfl, rfl, .inl (by omega), _, _, rfl, rfl, c, P.length * P.length + 1, ?_, by omega, fun H1 dp ds s1 ndp edp lds gds => ?_⟩
    · rw [Int.natCast_add, Int.natCast_mul]; rfl
    obtain ⟨d0, hd0⟩ := take_at (P := ds) (i := 0) (by omega)
    refine ⟨(by decide : 6 ≤ sizeLine), fun wl nwl => ?_⟩
    have s2 := same_new (o := .lst [.int 0, .int 1, .int 2, .int 3, .int 5, .int 8]) nwl
    have ed2 := s2 _ _ edp
    refine ⟨_, rfl, dp, _, 0, .int d0, rfl, rfl, SqL.of ed2, atNat (its_at hd0), .inl ⟨d0, rfl, _, _, rfl, rfl, (by decide : (0 : Int) < 6), ?_⟩⟩
    obtain ⟨m, hm, m6⟩ := modlt (z := d0) (n := 6) (by decide)
    obtain ⟨wt, hwt⟩ : ∃ wt : Int, [V.int 0, .int 1, .int 2, .int 3, .int 5, .int 8][m]? = some (.int wt) := by
      match m, m6 with
      | 0, _ => exact ⟨_, rfl⟩
      | 1, _ => exact ⟨_, rfl⟩
      | 2, _ => exact ⟨_, rfl⟩
      | 3, _ => exact ⟨_, rfl⟩
      | 4, _ => exact ⟨_, rfl⟩
      | 5, _ => exact ⟨_, rfl⟩
    refine ⟨wl, _, _, .int wt, rfl, rfl, SqL.of upd_same, atI_some hm hwt, ?_⟩
    have hp2 := s2 _ _ (s1 _ _ hp)
    have S2 := s1.trans s2
    generalize upd H1 wl (.lst [.int 0, .int 1, .int 2, .int 3, .int 5, .int 8]) = H2 at ed2 hp2 S2 ⊢
    refine ⟨(by decide : 0 ≤ sizeLine), fun l nl => ?_⟩
    refine ⟨_, rfl, _, rfl, _, _, rfl, rfl, .inl (by omega), ((P.length * P.length : Nat) : Int), ?_, by omega, by omega, ?_⟩
    · rw [Int.natCast_mul]
    rw [Int.toNat_natCast]
    refine for_it walk_range (fun i σ H3 => ∃ (xs : List V) (B : List (Str × Str)) (v6 v7 v8 : Option V), σ = [some (.int c), some (.ref pl), some (.int (P.length : Nat)), some (.ref dp), some (.int wt), some (.ref l), v6, v7, v8] ∧ Same H2 H3 ∧ H3 l = some (.lst xs) ∧ Prs H3 xs B ∧ B.length ≤ i ∧ ∀ p, p ∈ B → p.1 ∈ P ∧ p.2 ∈ P ∧ p.1 ≠ p.2)
      ⟨[], [], none, none, none, rfl, same_new nl, upd_same, ⟨rfl, fun i p e => by cases e⟩, Nat.le_refl _, by simp⟩ (fun _ _ _ _ _ => trivial) ?_ ?_
    · rintro i x σ H3 H4 hi ⟨xs, B, v6, v7, v8, rfl, s3, e3, pr, lB, gB⟩ ⟨rfl, rfl⟩
      have ed4 := s3 _ _ ed2
      have hp4 := s3 _ _ hp2
      have z0 : (0 + (i : Int)) = (i : Int) := by omega
      have dv : (i : Int) / (P.length : Int) = ((i / P.length : Nat) : Int) := by norm_cast
      have i1 : i / P.length < P.length := Nat.div_lt_of_lt_mul hi
      have i2 : i % P.length < P.length := Nat.mod_lt _ (by omega)
      have md : (i : Int) % (P.length : Int) = ((i % P.length : Nat) : Int) := by norm_cast
      obtain ⟨a, ha⟩ := take_at i1
      obtain ⟨b, hb⟩ := take_at i2
      refine ⟨_, rfl, _, rfl, _, rfl, _, _, rfl, rfl, ⟨by omega, by omega⟩, pl, _, _, .str a, rfl, rfl, SqL.of hp4, atI_some (by rw [z0, dv]) (txs_at ha), ?_⟩
      refine ⟨_, rfl, _, rfl, .inl ⟨_, rfl, _, rfl, _, _, rfl, rfl, (by omega : (0 : Int) < (P.length : Int)), pl, _, _, .str b, rfl, rfl, SqL.of hp4, atI_some (by rw [z0, md]) (txs_at hb), ?_⟩⟩
      have stay : ∀ (v6 v7 v8 : Option V), ∃ (xs : List V) (B : List (Str × Str)) (w6 w7 w8 : Option V), [some (V.int c), some (.ref pl), some (.int (P.length : Nat)), some (.ref dp), some (.int wt), some (.ref l), v6, v7, v8] = [some (V.int c), some (.ref pl), some (.int (P.length : Nat)), some (.ref dp), some (.int wt), some (.ref l), w6, w7, w8] ∧ Same H2 H4 ∧ H4 l = some (.lst xs) ∧ Prs H4 xs B ∧ B.length ≤ i + 1 ∧ ∀ p, p ∈ B → p.1 ∈ P ∧ p.2 ∈ P ∧ p.1 ≠ p.2 :=
        fun v6 v7 v8 => ⟨xs, B, v6, v7, v8, rfl, s3, e3, pr, by omega, gB⟩
      by_cases cab : a = b
      · exact ⟨_, rfl, _, rfl, rfl, false, by simp [cab], iteF (iteF (stay _ _ _))⟩
      · refine ⟨_, rfl, _, rfl, rfl, true, by simp [cab], iteT ?_⟩
        obtain ⟨d, hd⟩ := take_at (P := ds) (i := i + 1) (by omega)
        refine ⟨_, rfl, _, rfl, _, _, rfl, rfl, dp, _, _, .int d, rfl, rfl, SqL.of ed4, atI_some (k := i + 1) (by omega) (its_at hd), .inl ⟨_, rfl, _, _, rfl, rfl, (by decide : (0 : Int) < 12), _, rfl, _, _, rfl, rfl, ?_⟩⟩
        by_cases cw : d % 12 < wt
        · refine ⟨true, congrArg V.bl (decide_eq_true cw), iteT ?_⟩
          refine ⟨_, rfl, .inl ⟨rfl, _, SqL.of e3⟩, _, rfl, _, rfl, (by decide : 2 ≤ sizeLine), fun q nq => ?_⟩
          have s5 := same_new (o := .tup [.str a, .str b]) nq
          refine ⟨l, _, _, rfl, rfl, s5 _ _ e3, ?_, ?_⟩
          · rw [pr.1]; exact small1000 (by omega)
          · have pr5 := (pr.same s5).snoc (p := (a, b)) upd_same
            refine ⟨xs ++ [.ref q], B ++ [(a, b)], _, _, _, rfl, (s3.trans s5).put nl, upd_same, ⟨pr5.1, fun i p e => ?_⟩, by rw [List.length_append]; exact Nat.add_le_add_right lB 1, fun p hp' => ?_⟩
            · obtain ⟨z, z1, z2⟩ := pr5.2 i p e
              exact ⟨z, z1, by rw [upd_ne (ne_of z2 (s5 _ _ e3) (by intro z; cases z))]; exact z2⟩
            · rcases List.mem_append.mp hp' with q1 | q1
              · exact gB p q1
              · rw [List.mem_singleton.mp q1]
                exact ⟨mem_at ha, mem_at hb, cab⟩
        · exact ⟨false, congrArg V.bl (decide_eq_false cw), iteF (stay _ _ _)⟩
    · rintro σ H3 ⟨xs, B, v6, v7, v8, rfl, s3, e3, pr, lB, gB⟩
      refine ⟨_, rfl, dp, _, 0, .int d0, rfl, rfl, SqL.of (s3 _ _ ed2), atNat (its_at hd0), _, _, rfl, rfl, ⟨by decide, by decide⟩, .inl ⟨_, rfl, _, _, rfl, rfl, (by decide : (0 : Int) < 2), rfl, ?_⟩⟩
      have gB2 : GoodB P B := ⟨by omega, gB⟩
      by_cases c2 : (d0 / 6) % 2 = 1
      · refine ⟨true, congrArg V.bl (decide_eq_true (congrArg V.int c2)), iteT ?_⟩
        refine ⟨_, rfl, l, xs, rfl, SqL.of e3, fun q nq => ?_⟩
        have s4 := same_new (o := .lst xs.reverse) nq
        exact ⟨_, rfl, k _ q xs.reverse B.reverse ((S2.trans s3).trans s4) upd_same (pr.rev.same s4) gB2.rev⟩
      · refine ⟨false, congrArg V.bl (decide_eq_false (fun z => c2 (V.int.inj z))), iteF ?_⟩
        exact ⟨_, rfl, k H3 l xs B (S2.trans s3) e3 pr gB2⟩
end
end G
set_option Elab.async false
set_option linter.all false
set_option maxRecDepth 100000
set_option maxHeartbeats 4000000
namespace G
open PySem PySem.Spec PyProof.Rows L2 GM
def ins (m : Nat) (x : Str) (O : List Str) : List Str := O.take m ++ [x] ++ O.drop m
theorem ins_perm (m : Nat) (x : Str) (O : List Str) : (ins m x O).Perm (O ++ [x]) := by
  unfold ins
  rw [List.append_assoc]
  have h1 : (O.take m ++ ([x] ++ O.drop m)).Perm (x :: (O.take m ++ O.drop m)) := List.perm_middle
  rw [List.take_append_drop] at h1
  exact h1.trans (List.perm_append_singleton x O).symm
theorem ins_txs (m : Nat) (x : Str) (O : List Str) : txs (O.take m) ++ [.str x] ++ txs (O.drop m) = txs (ins m x O) := by
  unfold ins txs
  rw [List.map_append, List.map_append]
  rfl
def Hid (P O : List Str) (tk : Str → Str) : Prop := O.Perm P ∧ (∀ g, g ∈ P → tk g ∈ P ∧ tk g ≠ g) ∧ ∀ g, g ∈ P → ∀ h, h ∈ P → tk g = tk h → g = h
theorem mod_wrap {k sh n : Nat} (hk : k < n) (hs : sh < n) : ((k + sh) % n = k + sh ∧ k + sh < n) ∨ (k + sh) % n + n = k + sh := by
  by_cases c : k + sh < n
  · exact .inl ⟨Nat.mod_eq_of_lt c, c⟩
  · refine .inr ?_
    rw [Nat.mod_eq_sub_mod (by omega), Nat.mod_eq_of_lt (by omega)]
    omega
theorem at_uniq {O : List Str} (nd : O.Nodup) {i j : Nat} {x : Str} (hi : O[i]? = some x) (hj : O[j]? = some x) : i = j := by
  obtain ⟨h1, q1⟩ := List.getElem?_eq_some_iff.mp hi
  obtain ⟨h2, q2⟩ := List.getElem?_eq_some_iff.mp hj
  exact (List.getElem_inj nd).mp (q1.trans q2.symm)
theorem shifted {P O : List Str} (p : O.Perm P) (nd : P.Nodup) {sh : Nat} (h1 : 1 ≤ sh) (h2 : sh < O.length) : ∃ tk : Str → Str, (∀ (k : Nat) (x : Str), O[k]? = some x → O[(k + sh) % O.length]? = some (tk x)) ∧ Hid P O tk := by
  have ndO : O.Nodup := p.nodup_iff.mpr nd
  obtain ⟨tk, ht⟩ := choose_on ("" : Str) (L := O) (p := fun x y => ∀ k : Nat, O[k]? = some x → O[(k + sh) % O.length]? = some y) (fun x hx => by
    obtain ⟨k, hk, e⟩ := List.mem_iff_getElem.mp hx
    have l2 : (k + sh) % O.length < O.length := Nat.mod_lt _ (by omega)
    refine ⟨O[(k + sh) % O.length], fun j hj => ?_⟩
    have ej : j = k := at_uniq ndO hj (by rw [← e]; exact List.getElem?_eq_getElem hk)
    rw [ej]
    exact List.getElem?_eq_getElem l2)
  have ht2 : ∀ (k : Nat) (x : Str), O[k]? = some x → O[(k + sh) % O.length]? = some (tk x) := fun k x h => ht x (mem_at h) k h
  refine ⟨tk, ht2, p, fun g hg => ?_, fun g hg u hu e => ?_⟩
  · obtain ⟨k, hk, e⟩ := List.mem_iff_getElem.mp (p.mem_iff.mpr hg)
    have ek : O[k]? = some g := by rw [← e]; exact List.getElem?_eq_getElem hk
    refine ⟨p.mem_iff.mp (mem_at (ht2 k g ek)), fun z => ?_⟩
    have q := ht2 k g ek
    rw [z] at q
    have := at_uniq ndO q ek
    rcases mod_wrap hk h2 with w | w <;> omega
  · obtain ⟨k, hk, e1⟩ := List.mem_iff_getElem.mp (p.mem_iff.mpr hg)
    obtain ⟨j, hj, e2⟩ := List.mem_iff_getElem.mp (p.mem_iff.mpr hu)
    have ek : O[k]? = some g := by rw [← e1]; exact List.getElem?_eq_getElem hk
    have ej : O[j]? = some u := by rw [← e2]; exact List.getElem?_eq_getElem hj
    have q1 := ht2 k g ek
    have q2 := ht2 j u ej
    rw [e] at q1
    have w := at_uniq ndO q1 q2
    have kj : k = j := by rcases mod_wrap hk h2 with w1 | w1 <;> rcases mod_wrap hj h2 with w2 | w2 <;> omega
    rw [kj, ej] at ek
    exact (Option.some.inj ek).symm
def spHidden : Sp := fun vs H Q _ => ∃ (c : Int) (pl : Addr) (P : List Str), vs = [.int c, .ref pl] ∧ H pl = some (.lst (txs P)) ∧ 2 ≤ P.length ∧ P.length ≤ 12 ∧ P.Nodup ∧
  ∀ (H' : Hp) (p : Addr) (O : List Str) (tk : Str → Str), Same H H' → H' p = some (.dK (dm O (hv tk))) → Hid P O tk → Q (.ref p) H'
section
variable {P : Program} {w : World} {K : PySem.W.Frag} {mg : Str → Option Value} {base : Heap}
theorem c_hidden (T : Tx K mg) : C8.Cal P w K mg base 2 "_law_hidden" spHidden [] := by
  have cD := c_draws (P := P) (w := w) (base := base) T
  obtain ⟨fd, F, b⟩ := T.f_l_hidden
  refine ⟨_, fd, _, [], F.ok (k := 1) sc_l_hidden (fun vs H Q E h => ?_) (fun cdv A outer s H vs Q E hr h => ?_), T.g__law_hidden, F.kp, b, .nil⟩
  · obtain ⟨_, _, _, rfl, _⟩ := h
    rfl
  · obtain ⟨c, pl, P, rfl, hp, l2, l12, nd, k⟩ := h
    have hu := hu_of hr
    refine ⟨_, pss_cons (ps_set (i := 2) sc_l_hidden.nd rfl (.inl rfl) (C8.pe_c cD hr (Nat.le_refl _) rfl (pa_cons (pv 0) (pa_cons (pe_op op_add (pe_callB call_len_seq (by rfl) T.b_len (by rfl) (pa_cons (pv 1) pa_nil)) pe_int) pa_nil))))
      (pss_cons (ps_set (i := 3) sc_l_hidden.nd rfl (.inl rfl) (pe_lst pa_nil))
      (pss_cons (ps_for PassesOwn.never rfl (pi_range1 (by rfl) T.b_range (pa_cons (pe_callB call_len_seq (by rfl) T.b_len (by rfl) (pa_cons (pv 1) pa_nil)) pa_nil)) (pg_name (i := 4) sc_l_hidden.nd rfl (.inl rfl))
        (pss_cons (ps_set (i := 5) sc_l_hidden.nd rfl (.inl rfl) (pe_op op_mod (pe_callTy call_int1 (by rfl) T.b_int (by rfl) (pa_cons (pe_ix ix_list (pv 2) (pv 4) (fun _ _ => rfl)) pa_nil)) (pe_op op_add (pe_callB call_len_seq (by rfl) T.b_len (by rfl) (pa_cons (pv 3) pa_nil)) pe_int)))
        (pss_one (ps_set (i := 3) sc_l_hidden.nd rfl (.inl rfl) (pe_op op_cat (pe_op op_cat (pe_slice sl_list (pv 3) po_none (po_some (pv 5))) (pe_lst (pa_cons (pe_ix ix_list (pv 1) (pv 4) (fun _ _ => rfl)) pa_nil))) (pe_slice sl_list (pv 3) (po_some (pv 5)) po_none))))))
      (pss_cons (ps_set (i := 6) sc_l_hidden.nd rfl (.inl rfl) (pe_op op_add pe_int (pe_op op_mod (pe_callTy call_int1 (by rfl) T.b_int (by rfl) (pa_cons (pe_ix ix_list (pv 2) (pe_callB call_len_seq (by rfl) T.b_len (by rfl) (pa_cons (pv 1) pa_nil)) (fun _ _ => rfl)) pa_nil)) (pe_op op_sub (pe_callB call_len_seq (by rfl) T.b_len (by rfl) (pa_cons (pv 1) pa_nil)) pe_int))))
      (pss_cons (ps_set (i := 7) sc_l_hidden.nd rfl (.inl rfl) pe_dnewK)
      (pss_cons (ps_for PassesOwn.never rfl (pi_range1 (by rfl) T.b_range (pa_cons (pe_callB call_len_seq (by rfl) T.b_len (by rfl) (pa_cons (pv 3) pa_nil)) pa_nil)) (pg_name (i := 4) sc_l_hidden.nd rfl (.inl rfl))
        (pss_one (ps_dput hu (pv 7) (pe_ix ix_list (pv 3) (pv 4) (fun _ _ => rfl)) (pe_ix ix_list (pv 3) (pe_op op_mod (pe_callTy call_int1 (by rfl) T.b_int (by rfl) (pa_cons (pe_op op_add (pv 4) (pv 6)) pa_nil)) (pe_callB call_len_seq (by rfl) T.b_len (by rfl) (pa_cons (pv 3) pa_nil))) (fun _ _ => rfl)) rfl)))
      (pss_one (ps_ret (pv 7)))))))), ?_⟩
    have low := small1000 (show 100 ≤ 1000 by decide)
    refine ⟨_, rfl, _, rfl, pl, _, rfl, .inl (SqL.of hp), _, _, rfl, rfl, c, P.length + 1, ?_, by omega, fun H1 dp ds s1 ndp edp lds gds => ?_⟩
    · rw [txs_len, Int.natCast_add]; rfl
    refine ⟨(by decide : 0 ≤ sizeLine), fun l0 nl0 => ?_⟩
    have s2 := same_new (o := .lst []) nl0
    have e2 : upd H1 l0 (.lst []) l0 = some (.lst (txs [])) := upd_same
    generalize upd H1 l0 (.lst []) = H2 at s2 e2 ⊢
    have S2 := s1.trans s2
    have hp2 := S2 _ _ hp
    have ed2 := s2 _ _ edp
    refine ⟨_, rfl, pl, _, rfl, .inl (SqL.of hp2), (P.length : Nat), by rw [txs_len], by omega, by omega, ?_⟩
    rw [Int.toNat_natCast]
    refine for_it walk_range (fun i σ H3 => ∃ (lo : Addr) (O : List Str) (v4 v5 : Option V), σ = [some (.int c), some (.ref pl), some (.ref dp), some (.ref lo), v4, v5, none, none] ∧ Same H2 H3 ∧ H3 lo = some (.lst (txs O)) ∧ O.Perm (P.take i))
      ⟨l0, [], none, none, rfl, fun _ _ e => e, e2, by simp⟩ (fun _ _ _ _ _ => trivial) ?_ ?_
    · rintro i x σ H3 H4 hi ⟨lo, O, v4, v5, rfl, s3, e3, pO⟩ ⟨rfl, rfl⟩
      have z0 : (0 + (i : Int)) = (i : Int) := by omega
      have lO : O.length = i := by rw [pO.length_eq, List.length_take]; omega
      obtain ⟨d, hd⟩ := take_at (P := ds) (i := i) (by omega)
      obtain ⟨y, hy⟩ := take_at hi
      obtain ⟨m, hm, ml⟩ := modlt (z := d) (n := O.length + 1) (by omega)
      have hm2 : d % (((txs O).length : Nat) + 1 : Int) = m := by rw [txs_len]; exact hm
      refine ⟨_, rfl, _, rfl, dp, _, _, .int d, rfl, rfl, SqL.of (s3 _ _ ed2), atI_some z0 (its_at hd), .inl ⟨_, rfl, _, rfl, lo, _, rfl, .inl (SqL.of e3), _, _, rfl, rfl, _, _, rfl, rfl, (by omega : (0 : Int) < ((txs O).length : Nat) + 1), ?_⟩⟩
      refine ⟨_, rfl, _, rfl, (m : Int), congrArg V.int hm2, lo, _, rfl, SqL.of e3, fun p1 np1 => ?_⟩
      rw [cut_take (by rw [txs_len]; omega), txs_take]
      have t1 := same_new (o := .lst (txs (O.take m))) np1
      have f1 : upd H4 p1 (.lst (txs (O.take m))) p1 = some (.lst (txs (O.take m))) := upd_same
      generalize upd H4 p1 (.lst (txs (O.take m))) = H5 at t1 f1 ⊢
      refine ⟨_, rfl, _, rfl, pl, _, _, .str y, rfl, rfl, SqL.of (t1 _ _ (s3 _ _ hp2)), atI_some z0 (txs_at hy), (by decide : 1 ≤ sizeLine), fun p2 np2 => ?_⟩
      have t2 := same_new (o := .lst [.str y]) np2
      have f2 : upd H5 p2 (.lst [.str y]) p2 = some (.lst [.str y]) := upd_same
      generalize upd H5 p2 (.lst [.str y]) = H6 at t2 f2 ⊢
      refine ⟨p1, p2, _, _, rfl, rfl, t2 _ _ f1, f2, ?_, fun p3 np3 => ?_⟩
      · have : (txs (O.take m)).length ≤ O.length := by rw [txs_len, List.length_take]; omega
        show (txs (O.take m)).length + 1 ≤ sizeLine
        omega
      have t3 := same_new (o := .lst (txs (O.take m) ++ [.str y])) np3
      have f3 : upd H6 p3 (.lst (txs (O.take m) ++ [.str y])) p3 = some (.lst (txs (O.take m) ++ [.str y])) := upd_same
      generalize upd H6 p3 (.lst (txs (O.take m) ++ [.str y])) = H7 at t3 f3 ⊢
      have T3 := (t1.trans t2).trans t3
      refine ⟨_, rfl, _, rfl, (m : Int), congrArg V.int hm2, lo, _, rfl, SqL.of (T3 _ _ e3), fun p4 np4 => ?_⟩
      rw [cut_drop (by rw [txs_len]; omega), txs_drop]
      have t4 := same_new (o := .lst (txs (O.drop m))) np4
      have f4 : upd H7 p4 (.lst (txs (O.drop m))) p4 = some (.lst (txs (O.drop m))) := upd_same
      generalize upd H7 p4 (.lst (txs (O.drop m))) = H8 at t4 f4 ⊢
      refine ⟨p3, p4, _, _, rfl, rfl, t4 _ _ f3, f4, ?_, fun p5 np5 => ?_⟩
      · rw [List.length_append, txs_len, txs_len, List.length_take, List.length_drop]
        show min m O.length + 1 + (O.length - m) ≤ sizeLine
        omega
      rw [ins_txs]
      have t5 := same_new (o := .lst (txs (ins m y O))) np5
      refine ⟨p5, ins m y O, _, _, rfl, ((s3.trans T3).trans t4).trans t5, upd_same, ?_⟩
      rw [take_next hy]
      exact (ins_perm m y O).trans (pO.append_right [y])
    · rintro σ H3 ⟨lo, O, v4, v5, rfl, s3, e3, pO⟩
      rw [List.take_length] at pO
      have lO := pO.length_eq
      have ed3 := s3 _ _ ed2
      have hp3 := s3 _ _ hp2
      obtain ⟨d, hd⟩ := take_at (P := ds) (i := P.length) (by omega)
      obtain ⟨m, hm, ml⟩ := modlt (z := d) (n := P.length - 1) (by omega)
      have hm2 : 1 + d % (((txs P).length : Nat) - 1 : Int) = ((m + 1 : Nat) : Int) := by
        rw [txs_len, show ((P.length : Nat) : Int) - 1 = ((P.length - 1 : Nat) : Int) by omega, hm]
        omega
      refine ⟨_, rfl, _, rfl, pl, _, rfl, .inl (SqL.of hp3), dp, _, _, .int d, rfl, rfl, SqL.of ed3, atI_some (k := P.length) (by rw [txs_len]) (its_at hd), .inl ⟨_, rfl, _, rfl, pl, _, rfl, .inl (SqL.of hp3), _, _, rfl, rfl, _, _, rfl, rfl, (by rw [txs_len]; omega : (0 : Int) < ((txs P).length : Nat) - 1), _, _, rfl, rfl, ?_⟩⟩
      obtain ⟨tk, ht, hid⟩ := shifted pO nd (sh := m + 1) (by omega) (by omega)
      intro l nl
      have s4 := same_new (o := .dK []) nl
      refine ⟨_, rfl, lo, _, rfl, .inl (SqL.of (s4 _ _ e3)), (O.length : Nat), by rw [txs_len], by omega, by omega, ?_⟩
      rw [Int.toNat_natCast]
      have ndO : O.Nodup := pO.nodup_iff.mpr nd
      have hv6 : (V.int (1 + d % (((txs P).length : Nat) - 1 : Int))) = V.int ((m + 1 : Nat) : Int) := congrArg V.int hm2
      refine for_it walk_range (fun i σ H5 => ∃ v4 : Option V, σ = [some (.int c), some (.ref pl), some (.ref dp), some (.ref lo), v4, v5, some (V.int (1 + d % (((txs P).length : Nat) - 1 : Int))), some (.ref l)] ∧ Same H3 H5 ∧ H5 l = some (.dK (dm (O.take i) (hv tk))))
        ⟨v4, rfl, s4, upd_same⟩ (fun _ _ _ _ _ => trivial) ?_ ?_
      · rintro i x σ H5 H6 hi ⟨v4, rfl, s5, e5⟩ ⟨rfl, rfl⟩
        have z0 : (0 + (i : Int)) = (i : Int) := by omega
        obtain ⟨y, hy⟩ := take_at hi
        have e6 := s5 _ _ e3
        have zm : (0 + (i : Int) + (1 + d % (((txs P).length : Nat) - 1 : Int))) % ((txs O).length : Nat) = (((i + (m + 1)) % O.length : Nat) : Int) := by
          rw [hm2, txs_len]
          norm_cast
          rw [Nat.zero_add]
        refine ⟨_, rfl, _, rfl, _, rfl, _, _, rfl, rfl, .inl ⟨_, rfl, _, rfl, lo, _, rfl, .inl (SqL.of e6), _, _, rfl, rfl, (by rw [txs_len]; omega : (0 : Int) < ((txs O).length : Nat)), lo, _, _, .str (tk y), rfl, rfl, SqL.of e6, atI_some zm (txs_at (ht i y hy)), ?_⟩⟩
        refine ⟨_, rfl, _, rfl, _, rfl, lo, _, _, .str y, rfl, rfl, SqL.of e6, atI_some z0 (txs_at hy), l, _, rfl, DPut.k (k := Sum.inr y) e5 (by rw [dm_len, List.length_take]; exact lt24 (by omega)), _, rfl, s5.put nl, ?_⟩
        rw [upd_same, take_next hy]
        exact congrArg (fun z => some (HO.dK z)) (put_known (f := hv tk) (not_mem_take ndO hy))
      · rintro σ H5 ⟨v4, rfl, s5, e5⟩
        rw [List.take_length] at e5
        exact ⟨_, rfl, k H5 l O tk (S2.trans (s3.trans s5)) e5 hid⟩
end
end G
set_option Elab.async false
set_option linter.all false
set_option maxRecDepth 100000
set_option maxHeartbeats 4000000
namespace G
open PySem PySem.Spec PyProof.Rows L2 GM
theorem Diff.rot {P L : List Str} (h : Diff P L) (m : Nat) : Diff P (L.drop m ++ L.take m) := by
  have p : (L.drop m ++ L.take m).Perm L := by
    have h1 : (L.drop m ++ L.take m).Perm (L.take m ++ L.drop m) := List.perm_append_comm
    rw [List.take_append_drop] at h1
    exact h1
  exact ⟨fun v hv => h.1 v (p.mem_iff.mp hv), p.nodup_iff.mpr h.2⟩
def spLot : Sp := fun vs H Q _ => ∃ (dl pl : Addr) (ds : List Int) (P : List Str) (wt : Int), vs = [.ref dl, .ref pl, .int wt] ∧ H dl = some (.lst (its ds)) ∧ P.length ≤ ds.length ∧ H pl = some (.lst (txs P)) ∧ 1 ≤ P.length ∧ P.length ≤ 24 ∧ P.Nodup ∧
  ∀ (H' : Hp) (p : Addr) (L : List Str), Same H H' → H' p = some (.tup (txs L)) → Lot P L → Q (.ref p) H'
def spLeak : Sp := fun vs H Q _ => ∃ (c : Int) (pl : Addr) (P : List Str), vs = [.int c, .ref pl] ∧ H pl = some (.lst (txs P)) ∧ 2 ≤ P.length ∧ P.length ≤ 24 ∧ P.Nodup ∧
  ∀ (H' : Hp) (q : Addr) (k : Leak), Same H H' → LeakAt H' q k → GoodL P k → Q (.ref q) H'
section
variable {P : Program} {w : World} {K : PySem.W.Frag} {mg : Str → Option Value} {base : Heap}
theorem c_lot (T : Tx K mg) : C8.Cal P w K mg base 1 "_law_lot" spLot [] := by
  obtain ⟨fd, F, b⟩ := T.f_l_lot
  refine ⟨_, fd, _, [], F.ok (k := 0) sc_l_lot (fun vs H Q E h => ?_) (fun cdv A outer s H vs Q E hr h => ?_), T.g__law_lot, F.kp, b, .nil⟩
  · obtain ⟨_, _, _, _, _, rfl, _⟩ := h
    rfl
  · obtain ⟨dl, pl, ds, P, wt, rfl, hd, lds, hp, l1, l24, nd, k⟩ := h
    have hu := hu_of hr
    refine ⟨_, pss_cons (ps_setLc (i := 3) (tt := tTest (tOp _ (tOp _ (tCB _ (tCons (tOp (rIxL K) (tVar 0) (tVar 4)) tNil)) _) _)) (te := tOp (rIxL K) (tVar 1) (tVar 4)) rfl sc_l_lot.nd rfl rfl (sw_true rfl rfl rfl (by rfl)) (pi_range1 (by rfl) T.b_range (pa_cons (pe_callB call_len_seq (by rfl) T.b_len (by rfl) (pa_cons (pv 1) pa_nil)) pa_nil)) (blkOk_by (own := [("_law_k", 4)]) (N := N_l_lot) (sc := defScope sl_lot) (by decide +kernel))
        (fun _ _ _ _ _ => pg_name (i := 4) sc_l_lot.nd rfl (Or.inl rfl)) (fun _ _ _ _ _ => pts_one (pt_cmpR op_lt (pe_op op_mod (pe_callTy call_int1 (by rfl) T.b_int (by rfl) (pa_cons (pe_ix ix_list (pv 0) (pv 4) (fun _ _ => rfl)) pa_nil)) pe_int) (pv 2) rfl)) (fun _ _ _ _ _ => pe_ix ix_list (pv 1) (pv 4) (fun _ _ => rfl)))
      (C8.pss_cut (ps_if (pt_cmpR op_eq (pe_callB call_len_seq (by rfl) T.b_len (by rfl) (pa_cons (pv 3) pa_nil)) pe_int rfl)
        (pss_one (ps_set (i := 3) sc_l_lot.nd rfl (.inl rfl) (pe_lst (pa_cons (pe_ix ix_list (pv 1) (pe_op op_mod (pe_callTy call_int1 (by rfl) T.b_int (by rfl) (pa_cons (pe_op op_fdiv (pe_ix ix_list (pv 0) pe_int (fun _ _ => rfl)) pe_int) pa_nil)) (pe_callB call_len_seq (by rfl) T.b_len (by rfl) (pa_cons (pv 1) pa_nil))) (fun _ _ => rfl)) pa_nil)))) pss_nil)
      (pss_cons (ps_set (i := 5) sc_l_lot.nd rfl (.inl rfl) (pe_op op_mod (pe_callTy call_int1 (by rfl) T.b_int (by rfl) (pa_cons (pe_op op_fdiv (pe_ix ix_list (pv 0) pe_int (fun _ _ => rfl)) pe_int) pa_nil)) (pe_callB call_len_seq (by rfl) T.b_len (by rfl) (pa_cons (pv 3) pa_nil))))
      (pss_one (ps_ret (pe_callTy call_tuple_of (by rfl) T.b_tuple (by rfl) (pa_cons (pe_op op_cat (pe_slice sl_list (pv 3) (po_some (pv 5)) po_none) (pe_slice sl_list (pv 3) po_none (po_some (pv 5)))) pa_nil)))))), ?_⟩
    have low := small1000 (show 100 ≤ 1000 by decide)
    refine ⟨_, rfl, pl, _, rfl, .inl (SqL.of hp), (P.length : Nat), by rw [txs_len], by omega, by omega, ?_⟩
    rw [Int.toNat_natCast]
    intro D nD
    obtain ⟨d0, hd0⟩ := take_at (P := ds) (i := 0) (by omega)
    refine lc_it walk_range (fun i H2 => Same H H2 ∧ ∃ L : List Str, H2 D = some (.lst (txs L)) ∧ L.Sublist (P.take i)) ⟨same_new nD, [], upd_same, List.nil_sublist _⟩ (fun _ _ _ _ => trivial) ?_ ?_
    · rintro i x H2 H3 hi ⟨s2, L, e2, sL⟩ ⟨rfl, rfl⟩
      have z0 : (0 + (i : Int)) = (i : Int) := by omega
      obtain ⟨d, hdi⟩ := take_at (P := ds) (i := i) (by omega)
      obtain ⟨y, hy⟩ := take_at hi
      have sL2 : L.Sublist (P.take (i + 1)) := by rw [take_next hy]; exact sL.trans (List.sublist_append_left _ _)
      refine ⟨rfl, ?_⟩
      refine ⟨_, rfl, _, rfl, dl, _, _, .int d, rfl, rfl, SqL.of (s2 _ _ hd), atI_some z0 (its_at hdi), .inl ⟨_, rfl, _, _, rfl, rfl, (by decide : (0 : Int) < 6), _, rfl, _, _, rfl, rfl, ?_⟩⟩
      by_cases cw : d % 6 < wt
      · refine ⟨true, congrArg V.bl (decide_eq_true cw), iteT ?_⟩
        refine ⟨_, rfl, _, rfl, pl, _, _, .str y, rfl, rfl, SqL.of (s2 _ _ hp), atI_some z0 (txs_at hy), _, e2, ?_, s2.put nD, L ++ [y], ?_, ?_⟩
        · have := sL.length_le
          rw [List.length_take] at this
          rw [txs_len]
          omega
        · rw [upd_same]; unfold txs; rw [List.map_append]; rfl
        · rw [take_next hy]; exact sL.append_right [y]
      · exact ⟨false, congrArg V.bl (decide_eq_false cw), iteF ⟨s2, L, e2, sL2⟩⟩
    · rintro H2 ⟨s2, L, e2, sL⟩
      rw [List.take_length] at sL
      have df : Diff P L := ⟨fun v hv => sL.mem hv, nd.sublist sL⟩
      refine ⟨fun σ' H' => ∃ (l : Addr) (M : List Str) (v4 : Option V), σ' = [some (.ref dl), some (.ref pl), some (.int wt), some (.ref l), v4, none] ∧ Same H H' ∧ H' l = some (.lst (txs M)) ∧ M ≠ [] ∧ Diff P M, ?_, ?_⟩
      · by_cases c : L = []
        · subst c
          refine ⟨_, rfl, D, _, rfl, .inl (SqL.of e2), rfl, true, rfl, iteT ?_⟩
          obtain ⟨m, hm, ml⟩ := modlt (z := d0 / 6) (n := P.length) (by omega)
          obtain ⟨y, hy⟩ := take_at ml
          refine ⟨_, rfl, _, rfl, dl, _, 0, .int d0, rfl, rfl, SqL.of (s2 _ _ hd), atNat (its_at hd0), _, _, rfl, rfl, ⟨by decide, by decide⟩, .inl ⟨_, rfl, _, rfl, pl, _, rfl, .inl (SqL.of (s2 _ _ hp)), _, _, rfl, rfl, (by rw [txs_len]; omega : (0 : Int) < ((txs P).length : Nat)), pl, _, _, .str y, rfl, rfl, SqL.of (s2 _ _ hp), atI_some (by rw [txs_len]; exact hm) (txs_at hy), (by decide : 1 ≤ sizeLine), fun q nq => ?_⟩⟩
          exact ⟨q, [y], _, rfl, s2.trans (same_new nq), upd_same, by simp, fun v hv => by rw [List.mem_singleton.mp hv]; exact mem_at hy, by simp⟩
        · have hl := List.length_pos_iff.mpr c
          refine ⟨_, rfl, D, _, rfl, .inl (SqL.of e2), rfl, false, congrArg V.bl (decide_eq_false (fun z => by have := V.int.inj z; rw [txs_len] at this; omega)), iteF ?_⟩
          exact ⟨D, L, _, rfl, s2, e2, c, df⟩
      · rintro σ' H3 ⟨l, M, v4, rfl, s3, e3, nM, dM⟩
        have lM := List.length_pos_iff.mpr nM
        have lMP := len_le_of_sub dM.2 dM.1
        obtain ⟨m, hm, ml⟩ := modlt (z := d0 / 36) (n := M.length) lM
        have hm2 : d0 / 36 % ((txs M).length : Nat) = m := by rw [txs_len]; exact hm
        refine ⟨_, rfl, dl, _, 0, .int d0, rfl, rfl, SqL.of (s3 _ _ hd), atNat (its_at hd0), _, _, rfl, rfl, ⟨by decide, by decide⟩, .inl ⟨_, rfl, _, rfl, l, _, rfl, .inl (SqL.of e3), _, _, rfl, rfl, (by rw [txs_len]; omega : (0 : Int) < ((txs M).length : Nat)), ?_⟩⟩
        refine ⟨_, rfl, _, rfl, (m : Int), congrArg V.int hm2, l, _, rfl, SqL.of e3, fun p1 np1 => ?_⟩
        rw [cut_drop (by rw [txs_len]; omega), txs_drop]
        have t1 := same_new (o := .lst (txs (M.drop m))) np1
        have f1 : upd H3 p1 (.lst (txs (M.drop m))) p1 = some (.lst (txs (M.drop m))) := upd_same
        generalize upd H3 p1 (.lst (txs (M.drop m))) = H4 at t1 f1 ⊢
        refine ⟨_, rfl, _, rfl, (m : Int), congrArg V.int hm2, l, _, rfl, SqL.of (t1 _ _ e3), fun p2 np2 => ?_⟩
        rw [cut_take (by rw [txs_len]; omega), txs_take]
        have t2 := same_new (o := .lst (txs (M.take m))) np2
        have f2 : upd H4 p2 (.lst (txs (M.take m))) p2 = some (.lst (txs (M.take m))) := upd_same
        generalize upd H4 p2 (.lst (txs (M.take m))) = H5 at t2 f2 ⊢
        refine ⟨p1, p2, _, _, rfl, rfl, t2 _ _ f1, f2, ?_, fun p3 np3 => ?_⟩
        · rw [txs_len, txs_len, List.length_take, List.length_drop]
          omega
        have ea : txs (M.drop m) ++ txs (M.take m) = txs (M.drop m ++ M.take m) := by unfold txs; rw [List.map_append]
        rw [ea]
        have t3 := same_new (o := .lst (txs (M.drop m ++ M.take m))) np3
        refine ⟨p3, _, rfl, .inl ⟨SqL.of upd_same, fun t nt => ?_⟩⟩
        refine k _ t _ ((((s3.trans t1).trans t2).trans t3).trans (same_new nt)) upd_same ⟨?_, ?_, dM.rot m⟩
        · intro z
          have := congrArg List.length z
          rw [List.length_append, List.length_drop, List.length_take] at this
          simp at this
          omega
        · rw [List.length_append, List.length_drop, List.length_take]
          omega
end
end G
set_option Elab.async false
set_option linter.all false
set_option maxRecDepth 100000
set_option maxHeartbeats 4000000
namespace G
open PySem PySem.Spec PyProof.Rows L2 GM
theorem cut_mid {xs : List V} {a b : Nat} (h : a ≤ b) (hb : b ≤ xs.length) : cutV xs (some (a : Int)) (some (b : Int)) = (xs.drop a).take (b - a) := by
  unfold cutV
  rw [HT.sIx_nat, HT.sIx_nat, Nat.min_eq_left hb, Nat.min_eq_left (Nat.le_trans h hb)]
theorem its_take (l : List Int) (i : Nat) : (its l).take i = its (l.take i) := by unfold its; rw [List.map_take]
theorem its_drop (l : List Int) (i : Nat) : (its l).drop i = its (l.drop i) := by unfold its; rw [List.map_drop]
section
variable {P : Program} {w : World} {K : PySem.W.Frag} {mg : Str → Option Value} {base : Heap}
theorem c_leak (T : Tx K mg) : C8.Cal P w K mg base 2 "_law_leak" spLeak [] := by
  have cD := c_draws (P := P) (w := w) (base := base) T
  have cL := c_lot (P := P) (w := w) (base := base) T
  obtain ⟨fd, F, b⟩ := T.f_l_leak
  refine ⟨_, fd, _, [], F.ok (k := 1) sc_l_leak (fun vs H Q E h => ?_) (fun cdv A outer s H vs Q E hr h => ?_), T.g__law_leak, F.kp, b, .nil⟩
  · obtain ⟨_, _, _, rfl, _⟩ := h
    rfl
  · obtain ⟨c, pl, P, rfl, hp, l2, l24, nd, k⟩ := h
    refine ⟨_, pss_cons (ps_set (i := 2) sc_l_leak.nd rfl (.inl rfl) (pe_callB call_len_seq (by rfl) T.b_len (by rfl) (pa_cons (pv 1) pa_nil)))
      (pss_cons (ps_set (i := 3) sc_l_leak.nd rfl (.inl rfl) (C8.pe_c cD hr (Nat.le_refl _) rfl (pa_cons (pv 0) (pa_cons (pe_op op_add (pe_op op_mul pe_int (pv 2)) pe_int) pa_nil))))
      (pss_cons (ps_set (i := 4) sc_l_leak.nd rfl (.inl rfl) (pe_ix ix_list (pe_lst (pa_cons pe_str (pa_cons pe_str (pa_cons pe_str (pa_cons pe_str (pa_cons pe_str (pa_cons pe_str pa_nil))))))) (pe_op op_mod (pe_callTy call_int1 (by rfl) T.b_int (by rfl) (pa_cons (pe_ix ix_list (pv 3) pe_int (fun _ _ => rfl)) pa_nil)) pe_int) (fun _ _ => rfl)))
      (pss_cons (ps_set (i := 5) sc_l_leak.nd rfl (.inl rfl) (pe_op op_mod (pe_callTy call_int1 (by rfl) T.b_int (by rfl) (pa_cons (pe_ix ix_list (pv 3) pe_int (fun _ _ => rfl)) pa_nil)) (pv 2)))
      (pss_cons (ps_set (i := 6) sc_l_leak.nd rfl (.inl rfl) (pe_op op_mod (pe_callTy call_int1 (by rfl) T.b_int (by rfl) (pa_cons (pe_op op_add (pe_op op_add (pv 5) pe_int) (pe_op op_mod (pe_callTy call_int1 (by rfl) T.b_int (by rfl) (pa_cons (pe_ix ix_list (pv 3) pe_int (fun _ _ => rfl)) pa_nil)) (pe_op op_sub (pv 2) pe_int))) pa_nil)) (pv 2)))
      (pss_cons (ps_set (i := 7) sc_l_leak.nd rfl (.inl rfl) (C8.pe_c cL hr (Nat.le_refl _) rfl (pa_cons (pe_slice sl_list (pv 3) (po_some pe_int) (po_some (pe_op op_add pe_int (pv 2)))) (pa_cons (pv 1) (pa_cons (pe_op op_add pe_int (pe_op op_mod (pe_callTy call_int1 (by rfl) T.b_int (by rfl) (pa_cons (pe_ix ix_list (pv 3) pe_int (fun _ _ => rfl)) pa_nil)) pe_int)) pa_nil)))))
      (pss_cons (ps_set (i := 8) sc_l_leak.nd rfl (.inl rfl) (C8.pe_c cL hr (Nat.le_refl _) rfl (pa_cons (pe_slice sl_list (pv 3) (po_some (pe_op op_add pe_int (pv 2))) po_none) (pa_cons (pv 1) (pa_cons (pe_op op_add pe_int (pe_op op_mod (pe_callTy call_int1 (by rfl) T.b_int (by rfl) (pa_cons (pe_op op_fdiv (pe_ix ix_list (pv 3) pe_int (fun _ _ => rfl)) pe_int) pa_nil)) pe_int)) pa_nil)))))
      (pss_cons (ps_if (PW.pt (pw_or (pt_cmpR op_eq (pv 4) pe_str rfl) (pw_or1 (pt_cmpR op_eq (pv 4) pe_str rfl)))) (pss_one (ps_ret (pe_tup (pa_cons (pv 4) (pa_cons (pe_ix ix_list (pv 1) (pv 5) (fun _ _ => rfl)) (pa_cons (pe_ix ix_list (pv 1) (pv 6) (fun _ _ => rfl)) pa_nil)))))) pss_nil)
      (pss_cons (ps_if (PW.pt (pw_or (pt_cmpR op_eq (pv 4) pe_str rfl) (pw_or1 (pt_cmpR op_eq (pv 4) pe_str rfl)))) (pss_one (ps_ret (pe_tup (pa_cons (pv 4) (pa_cons (pe_ix ix_list (pv 1) (pv 5) (fun _ _ => rfl)) (pa_cons (pv 8) pa_nil)))))) pss_nil)
      (pss_one (ps_ret (pe_tup (pa_cons (pv 4) (pa_cons (pv 7) (pa_cons (pv 8) pa_nil)))))))))))))), ?_⟩
    have low := small1000 (show 100 ≤ 1000 by decide)
    refine ⟨_, rfl, pl, _, rfl, .inl (SqL.of hp), ?_⟩
    rw [txs_len]
    refine ⟨_, rfl, _, rfl, _, _, rfl, rfl, .inl (by decide), _, _, rfl, rfl, c, 2 * P.length + 4, ?_, by omega, fun H1 dp ds s1 ndp edp lds gds => ?_⟩
    · rw [Int.natCast_add, Int.natCast_mul]; rfl
    obtain ⟨d0, hd0⟩ := take_at (P := ds) (i := 0) (by omega)
    obtain ⟨d1, hd1⟩ := take_at (P := ds) (i := 1) (by omega)
    obtain ⟨d2, hd2⟩ := take_at (P := ds) (i := 2) (by omega)
    obtain ⟨d3, hd3⟩ := take_at (P := ds) (i := 3) (by omega)
    refine ⟨(by decide : 6 ≤ sizeLine), fun wl nwl => ?_⟩
    have s2 := same_new (o := .lst [.str "not", .str "this", .str "one", .str "from", .str "lot", .str "never"]) nwl
    have ed := s2 _ _ edp
    obtain ⟨m, hm, m6⟩ := modlt (z := d0) (n := 6) (by decide)
    obtain ⟨wd, hwd, hw6⟩ : ∃ wd : Str, [V.str "not", .str "this", .str "one", .str "from", .str "lot", .str "never"][m]? = some (.str wd) ∧ (wd = "not" ∨ wd = "this" ∨ wd = "one" ∨ wd = "from" ∨ wd = "lot" ∨ wd = "never") := by
      match m, m6 with
      | 0, _ => exact ⟨_, rfl, by simp⟩
      | 1, _ => exact ⟨_, rfl, by simp⟩
      | 2, _ => exact ⟨_, rfl, by simp⟩
      | 3, _ => exact ⟨_, rfl, by simp⟩
      | 4, _ => exact ⟨_, rfl, by simp⟩
      | 5, _ => exact ⟨_, rfl, by simp⟩
    refine ⟨_, rfl, dp, _, 0, .int d0, rfl, rfl, SqL.of ed, atNat (its_at hd0), .inl ⟨d0, rfl, _, _, rfl, rfl, (by decide : (0 : Int) < 6), wl, _, _, .str wd, rfl, rfl, SqL.of upd_same, atI_some hm hwd, ?_⟩⟩
    have S2 := s1.trans s2
    have hp2 := S2 _ _ hp
    generalize upd H1 wl (.lst [.str "not", .str "this", .str "one", .str "from", .str "lot", .str "never"]) = H2 at ed S2 hp2 ⊢
    have hP0 : (0 : Int) < (P.length : Nat) := by omega
    obtain ⟨ma, hma, la⟩ := modlt (z := d1) (n := P.length) (by omega)
    obtain ⟨mc, hmc, lc⟩ := modlt (z := d2) (n := P.length - 1) (by omega)
    have hmc2 : d2 % ((P.length : Nat) - 1 : Int) = mc := by rw [show ((P.length : Nat) : Int) - 1 = ((P.length - 1 : Nat) : Int) by omega, hmc]
    have lb : (ma + (1 + mc)) % P.length < P.length := Nat.mod_lt _ (by omega)
    have hmb : (d1 % ((P.length : Nat) : Int) + 1 + d2 % ((P.length : Nat) - 1 : Int)) % ((P.length : Nat) : Int) = (((ma + (1 + mc)) % P.length : Nat) : Int) := by
      rw [hma, hmc2]
      norm_cast
      rw [Nat.add_assoc]
    have nab : (ma + (1 + mc)) % P.length ≠ ma := by rcases mod_wrap la (show 1 + mc < P.length by omega) with z | z <;> omega
    obtain ⟨a, ha⟩ := take_at la
    obtain ⟨b', hb⟩ := take_at lb
    have hab : a ≠ b' := fun z => nab (at_uniq nd (by rw [z]; exact hb) ha)
    refine ⟨_, rfl, dp, _, 1, .int d1, rfl, rfl, SqL.of ed, atNat (its_at hd1), .inl ⟨d1, rfl, _, rfl, _, _, rfl, rfl, hP0, ?_⟩⟩
    refine ⟨_, rfl, _, _, rfl, rfl, _, rfl, dp, _, 2, .int d2, rfl, rfl, SqL.of ed, atNat (its_at hd2), .inl ⟨d2, rfl, _, rfl, _, _, rfl, rfl, _, _, rfl, rfl, (by omega : (0 : Int) < (P.length : Nat) - 1), _, _, rfl, rfl, .inl ⟨_, rfl, _, rfl, _, _, rfl, rfl, hP0, ?_⟩⟩⟩
    refine ⟨_, rfl, _, rfl, _, rfl, _, _, rfl, rfl, (4 + P.length : Nat), congrArg V.int (by rw [Int.natCast_add]; rfl), dp, _, rfl, SqL.of ed, fun g1 ng1 => ?_⟩
    have e4 : cutV (its ds) (some 4) (some ((4 + P.length : Nat) : Int)) = its ((ds.drop 4).take P.length) := by
      have q := cut_mid (xs := its ds) (a := 4) (b := 4 + P.length) (by omega) (by rw [its_len]; omega)
      rw [Nat.add_sub_cancel_left, its_drop, its_take] at q
      exact q
    rw [e4]
    have t1 := same_new (o := .lst (its ((ds.drop 4).take P.length))) ng1
    have f1 : upd H2 g1 (.lst (its ((ds.drop 4).take P.length))) g1 = some (.lst (its ((ds.drop 4).take P.length))) := upd_same
    generalize upd H2 g1 (.lst (its ((ds.drop 4).take P.length))) = H3 at t1 f1 ⊢
    refine ⟨_, rfl, _, rfl, dp, _, 3, .int d3, rfl, rfl, SqL.of (t1 _ _ ed), atNat (its_at hd3), .inl ⟨d3, rfl, _, _, rfl, rfl, (by decide : (0 : Int) < 5), _, _, rfl, rfl, ?_⟩⟩
    refine ⟨g1, pl, _, P, _, rfl, f1, by rw [List.length_take, List.length_drop]; omega, t1 _ _ hp2, by omega, l24, nd, fun H4 gv L s4 f4 lL => ?_⟩
    have S4 := t1.trans s4
    refine ⟨_, rfl, _, rfl, _, _, rfl, rfl, (4 + P.length : Nat), congrArg V.int (by rw [Int.natCast_add]; rfl), dp, _, rfl, SqL.of (S4 _ _ ed), fun g2 ng2 => ?_⟩
    rw [cut_drop (by rw [its_len]; omega), its_drop]
    have t5 := same_new (o := .lst (its (ds.drop (4 + P.length)))) ng2
    have f5 : upd H4 g2 (.lst (its (ds.drop (4 + P.length)))) g2 = some (.lst (its (ds.drop (4 + P.length)))) := upd_same
    generalize upd H4 g2 (.lst (its (ds.drop (4 + P.length)))) = H5 at t5 f5 ⊢
    have S5 := S4.trans t5
    refine ⟨_, rfl, _, rfl, dp, _, 3, .int d3, rfl, rfl, SqL.of (S5 _ _ ed), atNat (its_at hd3), _, _, rfl, rfl, ⟨by decide, by decide⟩, .inl ⟨_, rfl, _, _, rfl, rfl, (by decide : (0 : Int) < 5), _, _, rfl, rfl, ?_⟩⟩
    refine ⟨g2, pl, _, P, _, rfl, f5, by rw [List.length_drop]; omega, S5 _ _ hp2, by omega, l24, nd, fun H6 tv M s6 f6 lM => ?_⟩
    have S6 := S5.trans s6
    have G4 := (t5.trans s6) _ _ f4
    have hp6 := S6 _ _ hp2
    have ga := mem_at ha
    have gb := mem_at hb
    rcases hw6 with rfl | rfl | rfl | rfl | rfl | rfl
    · refine ⟨_, rfl, rfl, true, rfl, iteT (iteT ?_)⟩
      refine ⟨_, rfl, _, rfl, _, rfl, pl, _, _, .str a, rfl, rfl, SqL.of hp6, atI_some hma (txs_at ha), _, rfl, _, rfl, pl, _, _, .str b', rfl, rfl, SqL.of hp6, atI_some hmb (txs_at hb), (by decide : 3 ≤ sizeLine), fun q nq => ?_⟩
      exact k _ q (.nt a b') ((S2.trans S6).trans (same_new nq)) upd_same ⟨ga, gb, hab⟩
    · refine ⟨_, rfl, rfl, false, rfl, iteF ⟨_, rfl, rfl, true, rfl, iteT ?_⟩⟩
      refine ⟨_, rfl, _, rfl, _, rfl, pl, _, _, .str a, rfl, rfl, SqL.of hp6, atI_some hma (txs_at ha), _, rfl, _, rfl, pl, _, _, .str b', rfl, rfl, SqL.of hp6, atI_some hmb (txs_at hb), (by decide : 3 ≤ sizeLine), fun q nq => ?_⟩
      exact k _ q (.ths a b') ((S2.trans S6).trans (same_new nq)) upd_same ⟨ga, gb, hab⟩
    · refine ⟨_, rfl, rfl, false, rfl, iteF ⟨_, rfl, rfl, false, rfl, iteF ⟨_, rfl, rfl, true, rfl, iteT (iteT ?_)⟩⟩⟩
      refine ⟨_, rfl, _, rfl, _, rfl, pl, _, _, .str a, rfl, rfl, SqL.of hp6, atI_some hma (txs_at ha), _, rfl, (by decide : 3 ≤ sizeLine), fun q nq => ?_⟩
      have s7 := same_new (o := .tup [.str "one", .str a, .ref tv]) nq
      exact k _ q (.one a M) ((S2.trans S6).trans s7) ⟨_, upd_same, tv, rfl, s7 _ _ f6⟩ ⟨ga, lM⟩
    · refine ⟨_, rfl, rfl, false, rfl, iteF ⟨_, rfl, rfl, false, rfl, iteF ⟨_, rfl, rfl, false, rfl, iteF ⟨_, rfl, rfl, true, rfl, iteT ?_⟩⟩⟩⟩
      refine ⟨_, rfl, _, rfl, _, rfl, pl, _, _, .str a, rfl, rfl, SqL.of hp6, atI_some hma (txs_at ha), _, rfl, (by decide : 3 ≤ sizeLine), fun q nq => ?_⟩
      have s7 := same_new (o := .tup [.str "from", .str a, .ref tv]) nq
      exact k _ q (.frm a M) ((S2.trans S6).trans s7) ⟨_, upd_same, tv, rfl, s7 _ _ f6⟩ ⟨ga, lM⟩
    · refine ⟨_, rfl, rfl, false, rfl, iteF ⟨_, rfl, rfl, false, rfl, iteF ⟨_, rfl, rfl, false, rfl, iteF ⟨_, rfl, rfl, false, rfl, iteF ?_⟩⟩⟩⟩
      refine ⟨_, rfl, _, rfl, _, rfl, (by decide : 3 ≤ sizeLine), fun q nq => ?_⟩
      have s7 := same_new (o := .tup [.str "lot", .ref gv, .ref tv]) nq
      exact k _ q (.lot L M) ((S2.trans S6).trans s7) ⟨_, _, upd_same, ⟨gv, rfl, s7 _ _ G4⟩, tv, rfl, s7 _ _ f6⟩ ⟨lL, lM⟩
    · refine ⟨_, rfl, rfl, false, rfl, iteF ⟨_, rfl, rfl, false, rfl, iteF ⟨_, rfl, rfl, false, rfl, iteF ⟨_, rfl, rfl, false, rfl, iteF ?_⟩⟩⟩⟩
      refine ⟨_, rfl, _, rfl, _, rfl, (by decide : 3 ≤ sizeLine), fun q nq => ?_⟩
      have s7 := same_new (o := .tup [.str "never", .ref gv, .ref tv]) nq
      exact k _ q (.nvr L M) ((S2.trans S6).trans s7) ⟨_, _, upd_same, ⟨gv, rfl, s7 _ _ G4⟩, tv, rfl, s7 _ _ f6⟩ ⟨lL, lM⟩
end
end G
set_option Elab.async false
set_option linter.all false
set_option maxRecDepth 100000
set_option maxHeartbeats 4000000
namespace G
open PySem PySem.Spec PyProof.Rows L2 GM
def spLLets : Sp := fun vs H Q _ => ∃ (q : Addr) (k : Leak) (a b : Str), vs = [.ref q, .str a, .str b] ∧ LeakAt H q k ∧ ∀ c : Bool, Q (.bl c) H
def spLKept : Sp := fun vs H Q _ => ∃ (q hd : Addr) (k : Leak) (O : List Str) (tk : Str → Str), vs = [.ref q, .ref hd] ∧ LeakAt H q k ∧ H hd = some (.dK (dm O (hv tk))) ∧ ∀ (c : Bool) (H' : Hp), Same H H' → Q (.bl c) H'
section
variable {P : Program} {w : World} {K : PySem.W.Frag} {mg : Str → Option Value} {base : Heap}
theorem c_llets (T : Tx K mg) : C8.Cal P w K mg base 1 "_law_lets" spLLets [] := by
  obtain ⟨fd, F, b⟩ := T.f_l_lets
  refine ⟨_, fd, _, [], F.ok (k := 0) sc_l_lets (fun vs H Q E h => ?_) (fun cdv A outer s H vs Q E hr h => ?_), T.g__law_lets, F.kp, b, .nil⟩
  · obtain ⟨_, _, _, _, rfl, _⟩ := h
    rfl
  · obtain ⟨q, kk, g, t, rfl, hk, k⟩ := h
    have ix : ∀ n : Nat, True := fun _ => trivial
    refine ⟨_, pss_cons (ps_if (pt_cmpR op_eq (pe_ix ix_tup (pv 0) pe_int (fun _ _ => rfl)) pe_str rfl) (pss_one (ps_ret (pe_not (pe_and (pe_cmpR op_eq (pv 1) (pe_ix ix_tup (pv 0) pe_int (fun _ _ => rfl)) rfl) (pe_one (pe_cmpR op_eq (pv 2) (pe_ix ix_tup (pv 0) pe_int (fun _ _ => rfl)) rfl)))))) pss_nil)
      (pss_cons (ps_if (pt_cmpR op_eq (pe_ix ix_tup (pv 0) pe_int (fun _ _ => rfl)) pe_str rfl)
        (pss_cons (ps_if (pt_cmpR op_eq (pv 1) (pe_ix ix_tup (pv 0) pe_int (fun _ _ => rfl)) rfl) (pss_one (ps_ret (pe_cmpR op_eq (pv 2) (pe_ix ix_tup (pv 0) pe_int (fun _ _ => rfl)) rfl))) pss_nil)
          (pss_one (ps_ret (pe_cmpR op_ne (pv 2) (pe_ix ix_tup (pv 0) pe_int (fun _ _ => rfl)) rfl)))) pss_nil)
      (pss_cons (ps_if (pt_cmpR op_eq (pe_ix ix_tup (pv 0) pe_int (fun _ _ => rfl)) pe_str rfl) (pss_one (ps_ret (pe_or (pe_cmpR op_ne (pv 1) (pe_ix ix_tup (pv 0) pe_int (fun _ _ => rfl)) rfl) (pe_one (pe_cmpR op_in_seq (pv 2) (pe_ix ix_tup (pv 0) pe_int (fun _ _ => rfl)) rfl))))) pss_nil)
      (pss_cons (ps_if (pt_cmpR op_eq (pe_ix ix_tup (pv 0) pe_int (fun _ _ => rfl)) pe_str rfl) (pss_one (ps_ret (pe_or (pe_cmpR op_ne (pv 2) (pe_ix ix_tup (pv 0) pe_int (fun _ _ => rfl)) rfl) (pe_one (pe_cmpR op_in_seq (pv 1) (pe_ix ix_tup (pv 0) pe_int (fun _ _ => rfl)) rfl))))) pss_nil)
      (pss_cons (ps_if (pt_cmpR op_eq (pe_ix ix_tup (pv 0) pe_int (fun _ _ => rfl)) pe_str rfl) (pss_one (ps_ret (pe_or (pe_cmpR op_notIn_seq (pv 1) (pe_ix ix_tup (pv 0) pe_int (fun _ _ => rfl)) rfl) (pe_one (pe_cmpR op_in_seq (pv 2) (pe_ix ix_tup (pv 0) pe_int (fun _ _ => rfl)) rfl))))) pss_nil)
      (pss_one (ps_ret (pe_not (pe_and (pe_cmpR op_in_seq (pv 1) (pe_ix ix_tup (pv 0) pe_int (fun _ _ => rfl)) rfl) (pe_one (pe_cmpR op_in_seq (pv 2) (pe_ix ix_tup (pv 0) pe_int (fun _ _ => rfl)) rfl)))))))))), ?_⟩
    cases kk with
    | nt a b =>
      have hk : H q = some (.tup [.str "not", .str a, .str b]) := hk
      refine ⟨_, rfl, q, _, _, _, rfl, rfl, SqT.of hk, rfl, rfl, true, rfl, iteT ?_⟩
      refine ⟨_, rfl, _, rfl, q, _, _, _, rfl, rfl, SqT.of hk, rfl, rfl, _, rfl, ?_⟩
      split
      · exact ⟨_, rfl, _, rfl, q, _, _, _, rfl, rfl, SqT.of hk, rfl, rfl, _, rfl, k _⟩
      · exact ⟨_, rfl, k _⟩
    | ths a b =>
      have hk : H q = some (.tup [.str "this", .str a, .str b]) := hk
      refine ⟨_, rfl, q, _, _, _, rfl, rfl, SqT.of hk, rfl, rfl, false, rfl, iteF ?_⟩
      refine ⟨_, rfl, q, _, _, _, rfl, rfl, SqT.of hk, rfl, rfl, true, rfl, iteT ?_⟩
      by_cases c : g = a
      · refine ⟨_, rfl, _, rfl, q, _, _, _, rfl, rfl, SqT.of hk, rfl, rfl, true, by simp [c], iteT ?_⟩
        exact ⟨_, rfl, _, rfl, q, _, _, _, rfl, rfl, SqT.of hk, rfl, rfl, k _⟩
      · refine ⟨_, rfl, _, rfl, q, _, _, _, rfl, rfl, SqT.of hk, rfl, rfl, false, by simp [c], iteF ?_⟩
        exact ⟨_, rfl, _, rfl, q, _, _, _, rfl, rfl, SqT.of hk, rfl, rfl, k _⟩
    | one a L =>
      obtain ⟨v, hk, l, rfl, hL⟩ := hk
      refine ⟨_, rfl, q, _, _, _, rfl, rfl, SqT.of hk, rfl, rfl, false, rfl, iteF ?_⟩
      refine ⟨_, rfl, q, _, _, _, rfl, rfl, SqT.of hk, rfl, rfl, false, rfl, iteF ?_⟩
      refine ⟨_, rfl, q, _, _, _, rfl, rfl, SqT.of hk, rfl, rfl, true, rfl, iteT ?_⟩
      refine ⟨_, rfl, _, rfl, q, _, _, _, rfl, rfl, SqT.of hk, rfl, rfl, _, rfl, ?_⟩
      split
      · exact k _
      · exact ⟨_, rfl, _, rfl, q, _, _, _, rfl, rfl, SqT.of hk, rfl, l, _, rfl, .inr (SqT.of hL), rfl, flat_txs _, k _⟩
    | frm a L =>
      obtain ⟨v, hk, l, rfl, hL⟩ := hk
      refine ⟨_, rfl, q, _, _, _, rfl, rfl, SqT.of hk, rfl, rfl, false, rfl, iteF ?_⟩
      refine ⟨_, rfl, q, _, _, _, rfl, rfl, SqT.of hk, rfl, rfl, false, rfl, iteF ?_⟩
      refine ⟨_, rfl, q, _, _, _, rfl, rfl, SqT.of hk, rfl, rfl, false, rfl, iteF ?_⟩
      refine ⟨_, rfl, q, _, _, _, rfl, rfl, SqT.of hk, rfl, rfl, true, rfl, iteT ?_⟩
      refine ⟨_, rfl, _, rfl, q, _, _, _, rfl, rfl, SqT.of hk, rfl, rfl, _, rfl, ?_⟩
      split
      · exact k _
      · exact ⟨_, rfl, _, rfl, q, _, _, _, rfl, rfl, SqT.of hk, rfl, l, _, rfl, .inr (SqT.of hL), rfl, flat_txs _, k _⟩
    | lot L M =>
      obtain ⟨u, v, hk, ⟨l, rfl, hL⟩, m, rfl, hM⟩ := hk
      refine ⟨_, rfl, q, _, _, _, rfl, rfl, SqT.of hk, rfl, rfl, false, rfl, iteF ?_⟩
      refine ⟨_, rfl, q, _, _, _, rfl, rfl, SqT.of hk, rfl, rfl, false, rfl, iteF ?_⟩
      refine ⟨_, rfl, q, _, _, _, rfl, rfl, SqT.of hk, rfl, rfl, false, rfl, iteF ?_⟩
      refine ⟨_, rfl, q, _, _, _, rfl, rfl, SqT.of hk, rfl, rfl, false, rfl, iteF ?_⟩
      refine ⟨_, rfl, q, _, _, _, rfl, rfl, SqT.of hk, rfl, rfl, true, rfl, iteT ?_⟩
      by_cases c : g ∈ L
      · refine ⟨_, rfl, _, rfl, q, _, _, _, rfl, rfl, SqT.of hk, rfl, l, _, rfl, .inr (SqT.of hL), rfl, flat_txs _, false, by rw [inV_txs]; simp [c], iteF ?_⟩
        exact ⟨_, rfl, _, rfl, q, _, _, _, rfl, rfl, SqT.of hk, rfl, m, _, rfl, .inr (SqT.of hM), rfl, flat_txs _, k _⟩
      · exact ⟨_, rfl, _, rfl, q, _, _, _, rfl, rfl, SqT.of hk, rfl, l, _, rfl, .inr (SqT.of hL), rfl, flat_txs _, true, by rw [inV_txs]; simp [c], iteT (k _)⟩
    | nvr L M =>
      obtain ⟨u, v, hk, ⟨l, rfl, hL⟩, m, rfl, hM⟩ := hk
      refine ⟨_, rfl, q, _, _, _, rfl, rfl, SqT.of hk, rfl, rfl, false, rfl, iteF ?_⟩
      refine ⟨_, rfl, q, _, _, _, rfl, rfl, SqT.of hk, rfl, rfl, false, rfl, iteF ?_⟩
      refine ⟨_, rfl, q, _, _, _, rfl, rfl, SqT.of hk, rfl, rfl, false, rfl, iteF ?_⟩
      refine ⟨_, rfl, q, _, _, _, rfl, rfl, SqT.of hk, rfl, rfl, false, rfl, iteF ?_⟩
      refine ⟨_, rfl, q, _, _, _, rfl, rfl, SqT.of hk, rfl, rfl, false, rfl, iteF ?_⟩
      by_cases c : g ∈ L
      · refine ⟨_, rfl, _, rfl, q, _, _, _, rfl, rfl, SqT.of hk, rfl, l, _, rfl, .inr (SqT.of hL), rfl, flat_txs _, true, by rw [inV_txs]; simp [c], iteT ?_⟩
        exact ⟨_, rfl, _, rfl, q, _, _, _, rfl, rfl, SqT.of hk, rfl, m, _, rfl, .inr (SqT.of hM), rfl, flat_txs _, _, rfl, k _⟩
      · exact ⟨_, rfl, _, rfl, q, _, _, _, rfl, rfl, SqT.of hk, rfl, l, _, rfl, .inr (SqT.of hL), rfl, flat_txs _, false, by rw [inV_txs]; simp [c], iteF ⟨_, rfl, k _⟩⟩
theorem c_lkept (T : Tx K mg) : C8.Cal P w K mg base 2 "_law_kept" spLKept [] := by
  have cL := c_llets (P := P) (w := w) (base := base) T
  obtain ⟨fd, F, b⟩ := T.f_l_kept
  refine ⟨_, fd, _, [], F.ok (k := 1) sc_l_kept (fun vs H Q E h => ?_) (fun cdv A outer s H vs Q E hr h => ?_), T.g__law_kept, F.kp, b, .nil⟩
  · obtain ⟨_, _, _, _, _, rfl, _⟩ := h
    rfl
  · obtain ⟨q, hd, kk, O, tk, rfl, hk, hh, k⟩ := h
    have hu := hu_of hr
    refine ⟨_, pss_cons (ps_lock (ps_for PassesOwn.never rfl (pi_keys (pv 1)) (pg_name (i := 2) sc_l_kept.nd rfl (.inl rfl))
        (pss_one (ps_if (pt_not (pt_val (C8.pe_c cL hr (Nat.le_refl _) rfl (pa_cons (pv 0) (pa_cons (pv 2) (pa_cons (pe_dget hu (pv 1) (pv 2) (fun _ _ => rfl)) pa_nil)))))) (pss_one (ps_ret pe_bl)) pss_nil))))
      (pss_one (ps_ret pe_bl)), ?_⟩
    refine ⟨hd, _, hh, trivial, fun od => ⟨_, rfl, hd, od, rfl, .inl ⟨_, upd_same, ?_⟩⟩⟩
    have nqd : ∀ {b : Addr} {o : HO}, H b = some o → (∀ kvs, o ≠ .dK kvs) → b ≠ hd := fun {b o} e n z => by
      rw [z, hh] at e
      exact n _ (Option.some.inj e).symm
    have hkL : LeakAt (upd H hd (.frz od (.dK (dm O (hv tk))))) q kk := by
      have ts : ∀ {v : V} {L : List Str}, TupS H v L → TupS (upd H hd (.frz od (.dK (dm O (hv tk))))) v L := fun {v L} h => by
        obtain ⟨l, e, z⟩ := h
        exact ⟨l, e, by rw [upd_ne (nqd z (fun _ w => by cases w))]; exact z⟩
      cases kk with
      | nt a b =>
        have hk' : H q = some (.tup [.str "not", .str a, .str b]) := hk
        show upd H hd _ q = some (.tup [.str "not", .str a, .str b])
        rw [upd_ne (nqd hk' (fun _ w => by cases w))]
        exact hk'
      | ths a b =>
        have hk' : H q = some (.tup [.str "this", .str a, .str b]) := hk
        show upd H hd _ q = some (.tup [.str "this", .str a, .str b])
        rw [upd_ne (nqd hk' (fun _ w => by cases w))]
        exact hk'
      | one a L => obtain ⟨v, e, t⟩ := hk; exact ⟨v, by rw [upd_ne (nqd e (fun _ w => by cases w))]; exact e, ts t⟩
      | frm a L => obtain ⟨v, e, t⟩ := hk; exact ⟨v, by rw [upd_ne (nqd e (fun _ w => by cases w))]; exact e, ts t⟩
      | lot L M => obtain ⟨u, v, e, t, r⟩ := hk; exact ⟨u, v, by rw [upd_ne (nqd e (fun _ w => by cases w))]; exact e, ts t, ts r⟩
      | nvr L M => obtain ⟨u, v, e, t, r⟩ := hk; exact ⟨u, v, by rw [upd_ne (nqd e (fun _ w => by cases w))]; exact e, ts t, ts r⟩
    have back : Same H (upd (upd H hd (.frz od (.dK (dm O (hv tk))))) hd (.dK (dm O (hv tk)))) := unlock_same hh (fun _ _ e => e)
    refine for_turns O.length (fun i σ H1 => (∃ v2 : Option V, σ = [some (.ref q), some (.ref hd), v2]) ∧ H1 = upd H hd (.frz od (.dK (dm O (hv tk))))) ⟨⟨none, rfl⟩, rfl⟩ (fun i σ H1 hi p => ?_) (fun σ H1 p => ?_) ?_ ?_
    · rw [p.2]; exact ⟨upd_same, by rw [dm_len]; exact hi⟩
    · rw [p.2]; exact ⟨upd_same, by rw [dm_len]; exact Nat.le_refl _⟩
    · rintro i σ H1 hi ⟨⟨v2, rfl⟩, rfl⟩ x H2 ⟨rfl, kk2, v, hk2, rfl⟩
      obtain ⟨g, hg, rfl, rfl⟩ := dm_at hk2
      refine ⟨_, rfl, _, rfl, _, rfl, _, rfl, hd, _, rfl, get_dm (.inr ⟨od, upd_same⟩) (mem_at hg), q, kk, g, tk g, rfl, hkL, fun c => ⟨c, rfl, ?_⟩⟩
      cases c with
      | true => exact iteF ⟨⟨_, rfl⟩, rfl⟩
      | false => exact iteT ⟨upd_same, k _ _ back⟩
    · rintro σ H1 ⟨⟨v2, rfl⟩, rfl⟩
      exact ⟨upd_same, k _ _ back⟩
end
end G
set_option Elab.async false
set_option linter.all false
set_option maxRecDepth 100000
set_option maxHeartbeats 4000000
namespace G
open PySem PySem.Spec PyProof.Rows L2 GM
theorem Diff.add {P L M : List Str} (h : Diff P (L ++ M)) {x : Str} (hx : x ∈ P) (n1 : x ∉ L) (n2 : x ∉ M) : Diff P (L ++ (M ++ [x])) := by
  rw [← List.append_assoc]
  exact ⟨fun v hv => (mem_snoc.mp hv).elim (fun e => e ▸ hx) (h.1 v), nodup_snoc h.2 (fun z => (List.mem_append.mp z).elim n1 n2)⟩
theorem Lot.more {P L M : List Str} (h : L ≠ []) (d : Diff P (L ++ M)) (hP : P.length ≤ 24) : Lot P (L ++ M) :=
  ⟨fun z => h (List.append_eq_nil_iff.mp z).1, Nat.le_trans (len_le_of_sub d.2 d.1) hP, d⟩
def spMended : Sp := fun vs H Q _ => ∃ (q hd : Addr) (k : Leak) (P O : List Str) (tk : Str → Str), vs = [.ref q, .ref hd] ∧ LeakAt H q k ∧ GoodL P k ∧ H hd = some (.dK (dm O (hv tk))) ∧ Hid P O tk ∧ P.length ≤ 24 ∧ P.Nodup ∧
  (∀ (H' : Hp) (q' : Addr) (k' : Leak), Same H H' → LeakAt H' q' k' → GoodL P k' → Q (.ref q') H') ∧ ∀ H', Same H H' → Q .non H'
theorem cat_more {K : PySem.W.Frag} {H2 : Hp} {l D : Addr} {L Mo : List Str} (hL : H2 l = some (.tup (txs L))) (hD : H2 D = some (.lst (txs Mo))) (ne : L ≠ []) (len : (L ++ Mo).length ≤ 24) {Qc : VK}
    (k : ∀ (H3 : Hp) (r : Addr), Same H2 H3 → H3 r = some (.tup (txs (L ++ Mo))) → Qc (.ref r) H3) :
    ∃ p ys, [V.ref D] = [V.ref p] ∧ ((SqL K H2 p ys ∧ ∀ t, H2 t = none → rCatA K (.ref l) (.ref t) (upd H2 t (.tup ys)) Qc) ∨ (SqT K H2 p ys ∧ rCatA K (.ref l) (.ref p) H2 Qc)) := by
  have low := small1000 (show 100 ≤ 1000 by decide)
  refine ⟨D, txs Mo, rfl, .inl ⟨SqL.of hD, fun t nt => ?_⟩⟩
  have s1 := same_new (o := .tup (txs Mo)) nt
  have nL : txs L ≠ [] := fun z => ne (List.map_eq_nil_iff.mp z)
  refine ⟨l, t, txs L, txs Mo, rfl, rfl, SqT.of (s1 _ _ hL), SqT.of upd_same, ?_, fun z => absurd z nL, fun _ z => ?_, fun _ _ p np => ?_⟩
  · rw [List.length_append] at len
    rw [txs_len, txs_len]
    omega
  · have e : Mo = [] := List.map_eq_nil_iff.mp z
    subst e
    rw [List.append_nil] at k
    exact k _ l s1 (s1 _ _ hL)
  · have e : txs L ++ txs Mo = txs (L ++ Mo) := by unfold txs; rw [List.map_append]
    rw [e]
    exact k _ p (s1.trans (same_new np)) upd_same
section
variable {P : Program} {w : World} {K : PySem.W.Frag} {mg : Str → Option Value} {base : Heap}
theorem c_mended (T : Tx K mg) : C8.Cal P w K mg base 1 "_law_mended" spMended [] := by
  obtain ⟨fd, F, b⟩ := T.f_l_mended
  refine ⟨_, fd, _, [], F.ok (k := 0) sc_l_mended (fun vs H Q E h => ?_) (fun cdv A outer s H vs Q E hr h => ?_), T.g__law_mended, F.kp, b, .nil⟩
  · obtain ⟨_, _, _, _, _, _, rfl, _⟩ := h
    rfl
  · obtain ⟨q, hd, kk, P, O, tk, rfl, hk, gk, hh, hid, l24, nd, kY, kN⟩ := h
    have hu := hu_of hr
    refine ⟨_, pss_cons (ps_if (pt_cmpR op_eq (pe_ix ix_tup (pv 0) pe_int (fun _ _ => rfl)) pe_str rfl)
        (pss_one (ps_ret (pe_tup (pa_cons pe_str (pa_cons (pe_ix ix_tup (pv 0) pe_int (fun _ _ => rfl)) (pa_cons (pe_dget hu (pv 1) (pe_ix ix_tup (pv 0) pe_int (fun _ _ => rfl)) (fun _ _ => rfl)) pa_nil)))))) pss_nil)
      (pss_cons (ps_if (pt_cmpR op_eq (pe_ix ix_tup (pv 0) pe_int (fun _ _ => rfl)) pe_str rfl)
        (pss_cons (ps_setLc (i := 2) (tt := tTest (tOp (rIn K true) (tVar 3) (tOp (rIxT K) (tVar 0) (tC (.int 2))))) rfl sc_l_mended.nd rfl rfl (sw_true rfl rfl rfl (by rfl)) (pi_list (pe_lst (pa_cons (pe_dget hu (pv 1) (pe_ix ix_tup (pv 0) pe_int (fun _ _ => rfl)) (fun _ _ => rfl)) pa_nil))) (blkOk_by (own := [("_law_b", 3)]) (N := N_l_mended) (sc := defScope sl_mended) (by decide +kernel))
            (fun _ _ _ _ _ => pg_name (i := 3) sc_l_mended.nd rfl (Or.inl rfl)) (fun _ _ _ _ _ => pts_one (pt_cmpR op_notIn_seq (pv 3) (pe_ix ix_tup (pv 0) pe_int (fun _ _ => rfl)) rfl)) (fun _ _ _ _ _ => pv 3))
        (pss_one (ps_ret (pe_tup (pa_cons pe_str (pa_cons (pe_ix ix_tup (pv 0) pe_int (fun _ _ => rfl)) (pa_cons (pe_op op_catA (pe_ix ix_tup (pv 0) pe_int (fun _ _ => rfl)) (pe_callTy call_tuple_of (by rfl) T.b_tuple (by rfl) (pa_cons (pv 2) pa_nil))) pa_nil))))))) pss_nil)
      (pss_cons (ps_if (pt_cmpR op_eq (pe_ix ix_tup (pv 0) pe_int (fun _ _ => rfl)) pe_str rfl)
        (pss_cons (ps_lock (ps_setLc (i := 2) (tt := tAnd (tTest (tOp rEq (tDGet (tVar 1) (tVar 4)) (tOp (rIxT K) (tVar 0) (tC (.int 1))))) (tTest (tOp (rIn K true) (tVar 4) (tOp (rIxT K) (tVar 0) (tC (.int 2)))))) rfl sc_l_mended.nd rfl rfl (sw_true rfl rfl rfl (by rfl)) (pi_keys (pv 1)) (blkOk_by (own := [("_law_a", 4)]) (N := N_l_mended) (sc := defScope sl_mended) (by decide +kernel))
            (fun _ _ _ _ _ => pg_name (i := 4) sc_l_mended.nd rfl (Or.inl rfl)) (fun _ _ _ _ _ => pts_one (PW.pt (pw_and (pt_cmpR op_eq (pe_dget hu (pv 1) (pv 4) (fun _ _ => rfl)) (pe_ix ix_tup (pv 0) pe_int (fun _ _ => rfl)) rfl) (pw_and1 (pt_cmpR op_notIn_seq (pv 4) (pe_ix ix_tup (pv 0) pe_int (fun _ _ => rfl)) rfl))))) (fun _ _ _ _ _ => pv 4)))
        (pss_one (ps_ret (pe_tup (pa_cons pe_str (pa_cons (pe_ix ix_tup (pv 0) pe_int (fun _ _ => rfl)) (pa_cons (pe_op op_catA (pe_ix ix_tup (pv 0) pe_int (fun _ _ => rfl)) (pe_callTy call_tuple_of (by rfl) T.b_tuple (by rfl) (pa_cons (pv 2) pa_nil))) pa_nil))))))) pss_nil)
      (pss_cons (ps_if (pt_cmpR op_eq (pe_ix ix_tup (pv 0) pe_int (fun _ _ => rfl)) pe_str rfl)
        (pss_cons (ps_setLc (i := 2) (tt := tTest (tOp (rIn K true) (tDGet (tVar 1) (tVar 4)) (tOp (rIxT K) (tVar 0) (tC (.int 2))))) rfl sc_l_mended.nd rfl rfl (sw_true rfl rfl rfl (by rfl)) (pi_tup (pe_ix ix_tup (pv 0) pe_int (fun _ _ => rfl))) (blkOk_by (own := [("_law_a", 4)]) (N := N_l_mended) (sc := defScope sl_mended) (by decide +kernel))
            (fun _ _ _ _ _ => pg_name (i := 4) sc_l_mended.nd rfl (Or.inl rfl)) (fun _ _ _ _ _ => pts_one (pt_cmpR op_notIn_seq (pe_dget hu (pv 1) (pv 4) (fun _ _ => rfl)) (pe_ix ix_tup (pv 0) pe_int (fun _ _ => rfl)) rfl)) (fun _ _ _ _ _ => pe_dget hu (pv 1) (pv 4) (fun _ _ => rfl)))
        (pss_one (ps_ret (pe_tup (pa_cons pe_str (pa_cons (pe_ix ix_tup (pv 0) pe_int (fun _ _ => rfl)) (pa_cons (pe_op op_catA (pe_ix ix_tup (pv 0) pe_int (fun _ _ => rfl)) (pe_callTy call_tuple_of (by rfl) T.b_tuple (by rfl) (pa_cons (pv 2) pa_nil))) pa_nil))))))) pss_nil)
      (pss_cons (ps_if (pt_cmpR op_eq (pe_ix ix_tup (pv 0) pe_int (fun _ _ => rfl)) pe_str rfl)
        (pss_cons (ps_set (i := 5) sc_l_mended.nd rfl (.inr rfl) (pe_lc rfl sc_l_mended.nd (pi_tup (pe_ix ix_tup (pv 0) pe_int (fun _ _ => rfl))) (blkOk_by (own := [("_law_a", 4)]) (N := N_l_mended) (sc := defScope sl_mended) (by decide +kernel))
            (fun _ _ _ _ _ => pg_name (i := 4) sc_l_mended.nd rfl (Or.inl rfl)) (fun _ _ _ _ _ => pts_nil) (fun _ _ _ _ _ => pe_dget hu (pv 1) (pv 4) (fun _ _ => rfl))))
        (pss_cons (ps_setLc (i := 6) (tt := tTest (tOp (rIn K true) (tVar 3) (tVar 5))) rfl sc_l_mended.nd rfl rfl (sw_true rfl rfl rfl (by rfl)) (pi_tup (pe_ix ix_tup (pv 0) pe_int (fun _ _ => rfl))) (blkOk_by (own := [("_law_b", 3)]) (N := N_l_mended) (sc := defScope sl_mended) (by decide +kernel))
            (fun _ _ _ _ _ => pg_name (i := 3) sc_l_mended.nd rfl (Or.inl rfl)) (fun _ _ _ _ _ => pts_one (pt_cmpR op_notIn_seq (pv 3) (pv 5) rfl)) (fun _ _ _ _ _ => pv 3))
        (pss_cons (ps_if (pt_cmpR op_eq (pe_callB call_len_seq (by rfl) T.b_len (by rfl) (pa_cons (pv 6) pa_nil)) pe_int rfl) (pss_one (ps_ret pe_non)) pss_nil)
        (pss_one (ps_ret (pe_tup (pa_cons pe_str (pa_cons (pe_ix ix_tup (pv 0) pe_int (fun _ _ => rfl)) (pa_cons (pe_callTy call_tuple_of (by rfl) T.b_tuple (by rfl) (pa_cons (pv 6) pa_nil)) pa_nil))))))))) pss_nil)
      (pss_cons (ps_if (pt_cmpR op_eq (pe_dget hu (pv 1) (pe_ix ix_tup (pv 0) pe_int (fun _ _ => rfl)) (fun _ _ => rfl)) (pe_ix ix_tup (pv 0) pe_int (fun _ _ => rfl)) rfl) (pss_one (ps_ret pe_non)) pss_nil)
      (pss_one (ps_ret (pv 0)))))))), ?_⟩
    have low := small1000 (show 100 ≤ 1000 by decide)
    have inO : ∀ {g : Str}, g ∈ P → g ∈ O := fun h => hid.1.mem_iff.mpr h
    cases kk with
    | nt a b =>
      have hk : H q = some (.tup [.str "not", .str a, .str b]) := hk
      refine ⟨_, rfl, q, _, _, _, rfl, rfl, SqT.of hk, rfl, rfl, false, rfl, iteF ?_⟩
      refine ⟨_, rfl, q, _, _, _, rfl, rfl, SqT.of hk, rfl, rfl, false, rfl, iteF ?_⟩
      refine ⟨_, rfl, q, _, _, _, rfl, rfl, SqT.of hk, rfl, rfl, false, rfl, iteF ?_⟩
      refine ⟨_, rfl, q, _, _, _, rfl, rfl, SqT.of hk, rfl, rfl, false, rfl, iteF ?_⟩
      refine ⟨_, rfl, q, _, _, _, rfl, rfl, SqT.of hk, rfl, rfl, false, rfl, iteF ?_⟩
      by_cases c : tk a = b
      · exact ⟨_, rfl, _, rfl, q, _, _, _, rfl, rfl, SqT.of hk, rfl, hd, _, rfl, get_dm (.inl hh) (inO gk.1), _, rfl, q, _, _, _, rfl, rfl, SqT.of hk, rfl, rfl, true, congrArg V.bl (decide_eq_true (by rw [← c]; rfl)), iteT (kN _ (fun _ _ e => e))⟩
      · exact ⟨_, rfl, _, rfl, q, _, _, _, rfl, rfl, SqT.of hk, rfl, hd, _, rfl, get_dm (.inl hh) (inO gk.1), _, rfl, q, _, _, _, rfl, rfl, SqT.of hk, rfl, rfl, false, congrArg V.bl (decide_eq_false (fun z => c (V.str.inj z))), iteF ⟨_, rfl, kY _ q (.nt a b) (fun _ _ e => e) hk gk⟩⟩
    | ths a b =>
      have hk : H q = some (.tup [.str "this", .str a, .str b]) := hk
      refine ⟨_, rfl, q, _, _, _, rfl, rfl, SqT.of hk, rfl, rfl, true, rfl, iteT ?_⟩
      refine ⟨_, rfl, q, _, _, _, rfl, rfl, SqT.of hk, rfl, _, rfl, _, rfl, q, _, _, _, rfl, rfl, SqT.of hk, rfl, hd, _, rfl, get_dm (.inl hh) (inO gk.1), (by decide : 3 ≤ sizeLine), fun p np => ?_⟩
      exact kY _ p (.ths a (tk a)) (same_new np) upd_same ⟨gk.1, (hid.2.1 a gk.1).1, fun z => (hid.2.1 a gk.1).2 z.symm⟩
    | one a L =>
      obtain ⟨v, hk, l, rfl, hL⟩ := hk
      refine ⟨_, rfl, q, _, _, _, rfl, rfl, SqT.of hk, rfl, rfl, false, rfl, iteF ?_⟩
      refine ⟨_, rfl, q, _, _, _, rfl, rfl, SqT.of hk, rfl, rfl, true, rfl, iteT ?_⟩
      refine ⟨_, rfl, _, rfl, q, _, _, _, rfl, rfl, SqT.of hk, rfl, hd, _, rfl, get_dm (.inl hh) (inO gk.1), (by decide : 1 ≤ sizeLine), fun p1 np1 => ?_⟩
      have s1 := same_new (o := .lst [hv tk a]) np1
      have f1 : upd H p1 (.lst [hv tk a]) p1 = some (.lst [hv tk a]) := upd_same
      generalize upd H p1 (.lst [hv tk a]) = H1 at s1 f1 ⊢
      refine ⟨p1, rfl, ⟨_, SqL.of f1⟩, fun D nD => ?_⟩
      refine lc_it (walk_list (xs := [hv tk a])) (fun i H2 => Same H1 H2 ∧ ∃ Mo : List Str, H2 D = some (.lst (txs Mo)) ∧ Diff P (L ++ Mo) ∧ ∀ x, x ∈ Mo → x ∈ [tk a].take i) ⟨same_new nD, [], upd_same, by rw [List.append_nil]; exact gk.2.2.2, by simp⟩ (fun i H2 _ p => SqL.of (p.1 _ _ f1)) ?_ ?_
      · rintro i x H2 H3 hi ⟨s2, Mo, e2, df, sub⟩ ⟨rfl, hx⟩
        have i0 : i = 0 := by
          have : i < 1 := hi
          omega
        subst i0
        have ex : hv tk a = x := Option.some.inj hx
        subst ex
        have S2 := s1.trans s2
        refine ⟨rfl, ?_⟩
        by_cases c : tk a ∈ L
        · exact ⟨_, rfl, _, rfl, q, _, _, _, rfl, rfl, SqT.of (S2 _ _ hk), rfl, l, _, rfl, .inr (SqT.of (S2 _ _ hL)), rfl, flat_txs _, false, by show V.bl (if true = true then !inV (V.str (tk a)) (txs L) else inV (V.str (tk a)) (txs L)) = V.bl false; rw [inV_txs]; simp [c], iteF ⟨s2, Mo, e2, df, fun x hx => by have := sub x hx; simp at this⟩⟩
        · refine ⟨_, rfl, _, rfl, q, _, _, _, rfl, rfl, SqT.of (S2 _ _ hk), rfl, l, _, rfl, .inr (SqT.of (S2 _ _ hL)), rfl, flat_txs _, true, by show V.bl (if true = true then !inV (V.str (tk a)) (txs L) else inV (V.str (tk a)) (txs L)) = V.bl true; rw [inV_txs]; simp [c], iteT ?_⟩
          refine ⟨_, rfl, _, e2, ?_, s2.put nD, Mo ++ [tk a], ?_, df.add (hid.2.1 a gk.1).1 c (fun z => by have := sub _ z; simp at this), fun x hx => ?_⟩
          · have := len_le_of_sub df.2 df.1
            rw [List.length_append] at this
            rw [txs_len]
            omega
          · rw [upd_same]; unfold txs; rw [List.map_append]; rfl
          · rcases mem_snoc.mp hx with z | z
            · rw [z]; simp
            · have := sub x z; simp at this
      · rintro H2 ⟨s2, Mo, e2, df, _⟩
        have S2 := s1.trans s2
        refine ⟨_, rfl, q, _, _, _, rfl, rfl, SqT.of (S2 _ _ hk), rfl, _, rfl, q, _, _, _, rfl, rfl, SqT.of (S2 _ _ hk), rfl, _, rfl, cat_more (S2 _ _ hL) e2 gk.2.1 (Lot.more gk.2.1 df l24).2.1 fun H3 r s3 hr3 => ⟨(by decide : 3 ≤ sizeLine), fun p np => ?_⟩⟩
        have s4 := same_new (o := .tup [.str "one", .str a, .ref r]) np
        exact kY _ p (.one a (L ++ Mo)) ((S2.trans s3).trans s4) ⟨_, upd_same, r, rfl, s4 _ _ hr3⟩ ⟨gk.1, Lot.more gk.2.1 df l24⟩
    | frm a L =>
      obtain ⟨v, hk, l, rfl, hL⟩ := hk
      refine ⟨_, rfl, q, _, _, _, rfl, rfl, SqT.of hk, rfl, rfl, false, rfl, iteF ?_⟩
      refine ⟨_, rfl, q, _, _, _, rfl, rfl, SqT.of hk, rfl, rfl, false, rfl, iteF ?_⟩
      refine ⟨_, rfl, q, _, _, _, rfl, rfl, SqT.of hk, rfl, rfl, true, rfl, iteT ?_⟩
      refine ⟨hd, _, hh, trivial, fun od => ⟨_, rfl, hd, od, rfl, .inl ⟨_, upd_same, fun D nD => ?_⟩⟩⟩
      have nqd : ∀ {b : Addr} {o : HO}, H b = some o → (∀ kvs, o ≠ .dK kvs) → upd H hd (.frz od (.dK (dm O (hv tk)))) b = some o := fun {b o} e n => by
        rw [upd_ne (fun z => by rw [z, hh] at e; exact n _ (Option.some.inj e).symm)]
        exact e
      have hkL := nqd hk (fun _ w => by cases w)
      have hLL := nqd hL (fun _ w => by cases w)
      have ndO : O.Nodup := hid.1.nodup_iff.mpr nd
      refine lc_turns O.length (fun i H2 => Same (upd H hd (.frz od (.dK (dm O (hv tk))))) H2 ∧ ∃ Mo : List Str, H2 D = some (.lst (txs Mo)) ∧ Diff P (L ++ Mo) ∧ ∀ x, x ∈ Mo → x ∈ O.take i) ⟨same_new nD, [], upd_same, by rw [List.append_nil]; exact gk.2.2.2, by simp⟩ (fun i H2 hi p => ⟨p.1 _ _ upd_same, by rw [dm_len]; exact hi⟩) (fun H2 p => ⟨p.1 _ _ upd_same, by rw [dm_len]; exact Nat.le_refl _⟩) ?_ ?_
      · rintro i H2 hi ⟨s2, Mo, e2, df, sub⟩ x H3 ⟨rfl, kk2, vv, hk2, rfl⟩
        obtain ⟨g, hg, rfl, rfl⟩ := dm_at hk2
        have gP : g ∈ P := hid.1.mem_iff.mp (mem_at hg)
        have sub2 : ∀ x, x ∈ Mo → x ∈ O.take (i + 1) := fun x hx => by rw [take_next hg]; exact List.mem_append_left _ (sub x hx)
        refine ⟨rfl, ?_⟩
        by_cases c : tk g = a
        · refine ⟨_, rfl, _, rfl, hd, _, rfl, get_dm (.inr ⟨od, s2 _ _ upd_same⟩) (mem_at hg), _, rfl, q, _, _, _, rfl, rfl, SqT.of (s2 _ _ hkL), rfl, rfl, true, congrArg V.bl (decide_eq_true (by rw [← c]; rfl)), iteT ?_⟩
          by_cases c2 : g ∈ L
          · exact ⟨_, rfl, _, rfl, q, _, _, _, rfl, rfl, SqT.of (s2 _ _ hkL), rfl, l, _, rfl, .inr (SqT.of (s2 _ _ hLL)), rfl, flat_txs _, false, by show V.bl (if true = true then !inV (V.str g) (txs L) else inV (V.str g) (txs L)) = V.bl false; rw [inV_txs]; simp [c2], iteF ⟨s2, Mo, e2, df, sub2⟩⟩
          · refine ⟨_, rfl, _, rfl, q, _, _, _, rfl, rfl, SqT.of (s2 _ _ hkL), rfl, l, _, rfl, .inr (SqT.of (s2 _ _ hLL)), rfl, flat_txs _, true, by show V.bl (if true = true then !inV (V.str g) (txs L) else inV (V.str g) (txs L)) = V.bl true; rw [inV_txs]; simp [c2], iteT ?_⟩
            refine ⟨_, rfl, _, e2, ?_, s2.put nD, Mo ++ [g], ?_, df.add gP c2 (fun z => not_mem_take ndO hg (sub g z)), fun x hx => ?_⟩
            · have := len_le_of_sub df.2 df.1
              rw [List.length_append] at this
              rw [txs_len]
              omega
            · rw [upd_same]; unfold txs; rw [List.map_append]; rfl
            · rw [take_next hg]
              exact mem_snoc.mpr ((mem_snoc.mp hx).imp id (sub x))
        · refine ⟨_, rfl, _, rfl, hd, _, rfl, get_dm (.inr ⟨od, s2 _ _ upd_same⟩) (mem_at hg), _, rfl, q, _, _, _, rfl, rfl, SqT.of (s2 _ _ hkL), rfl, rfl, false, congrArg V.bl (decide_eq_false (fun z => c (V.str.inj z))), iteF (iteF ⟨s2, Mo, e2, df, sub2⟩)⟩
      · rintro H2 ⟨s2, Mo, e2, df, _⟩
        obtain ⟨r1, S2, r3, r4⟩ := behind_lock hh nD s2
        have e2 := r4 _ e2
        refine ⟨r1, ?_⟩
        generalize upd H2 hd (.dK (dm O (hv tk))) = H3 at S2 e2 ⊢
        refine ⟨_, rfl, q, _, _, _, rfl, rfl, SqT.of (S2 _ _ hk), rfl, _, rfl, q, _, _, _, rfl, rfl, SqT.of (S2 _ _ hk), rfl, _, rfl, cat_more (S2 _ _ hL) e2 gk.2.1 (Lot.more gk.2.1 df l24).2.1 fun H3 r s3 hr3 => ⟨(by decide : 3 ≤ sizeLine), fun p np => ?_⟩⟩
        have s4 := same_new (o := .tup [.str "from", .str a, .ref r]) np
        exact kY _ p (.frm a (L ++ Mo)) ((S2.trans s3).trans s4) ⟨_, upd_same, r, rfl, s4 _ _ hr3⟩ ⟨gk.1, Lot.more gk.2.1 df l24⟩
    | lot L M =>
      obtain ⟨u, v, hk, ⟨l, rfl, hL⟩, m, rfl, hM⟩ := hk
      refine ⟨_, rfl, q, _, _, _, rfl, rfl, SqT.of hk, rfl, rfl, false, rfl, iteF ?_⟩
      refine ⟨_, rfl, q, _, _, _, rfl, rfl, SqT.of hk, rfl, rfl, false, rfl, iteF ?_⟩
      refine ⟨_, rfl, q, _, _, _, rfl, rfl, SqT.of hk, rfl, rfl, false, rfl, iteF ?_⟩
      refine ⟨_, rfl, q, _, _, _, rfl, rfl, SqT.of hk, rfl, rfl, true, rfl, iteT ?_⟩
      refine ⟨_, rfl, q, _, _, _, rfl, rfl, SqT.of hk, rfl, l, rfl, ⟨_, SqT.of hL⟩, fun D nD => ?_⟩
      obtain ⟨⟨nL, _, dL⟩, ⟨nM, _, dM⟩⟩ := gk
      refine lc_it (walk_tup (xs := txs L)) (fun i H2 => Same H H2 ∧ ∃ Mo : List Str, H2 D = some (.lst (txs Mo)) ∧ Diff P (M ++ Mo) ∧ ∀ x, x ∈ Mo → ∃ a, a ∈ L.take i ∧ x = tk a) ⟨same_new nD, [], upd_same, by rw [List.append_nil]; exact dM, by simp⟩ (fun i H2 _ p => SqT.of (p.1 _ _ hL)) ?_ ?_
      · rintro i x H2 H3 hi ⟨s2, Mo, e2, df, sub⟩ ⟨rfl, hx⟩
        obtain ⟨g, hg, rfl⟩ := txs_get hx
        have gP : g ∈ P := dL.1 g (mem_at hg)
        have sub2 : ∀ x, x ∈ Mo → ∃ a, a ∈ L.take (i + 1) ∧ x = tk a := fun x hx => by
          obtain ⟨a, h1, h2⟩ := sub x hx
          exact ⟨a, by rw [take_next hg]; exact List.mem_append_left _ h1, h2⟩
        refine ⟨rfl, ?_⟩
        by_cases c : tk g ∈ M
        · exact ⟨_, rfl, _, rfl, hd, _, rfl, get_dm (.inl (s2 _ _ hh)) (inO gP), _, rfl, q, _, _, _, rfl, rfl, SqT.of (s2 _ _ hk), rfl, m, _, rfl, .inr (SqT.of (s2 _ _ hM)), rfl, flat_txs _, false, by show V.bl (if true = true then !inV (V.str (tk g)) (txs M) else inV (V.str (tk g)) (txs M)) = V.bl false; rw [inV_txs]; simp [c], iteF ⟨s2, Mo, e2, df, sub2⟩⟩
        · refine ⟨_, rfl, _, rfl, hd, _, rfl, get_dm (.inl (s2 _ _ hh)) (inO gP), _, rfl, q, _, _, _, rfl, rfl, SqT.of (s2 _ _ hk), rfl, m, _, rfl, .inr (SqT.of (s2 _ _ hM)), rfl, flat_txs _, true, by show V.bl (if true = true then !inV (V.str (tk g)) (txs M) else inV (V.str (tk g)) (txs M)) = V.bl true; rw [inV_txs]; simp [c], iteT ?_⟩
          refine ⟨_, rfl, _, rfl, hd, _, rfl, get_dm (.inl (s2 _ _ hh)) (inO gP), _, e2, ?_, s2.put nD, Mo ++ [tk g], ?_, df.add (hid.2.1 g gP).1 c (fun z => ?_), fun x hx => ?_⟩
          · have := len_le_of_sub df.2 df.1
            rw [List.length_append] at this
            rw [txs_len]
            omega
          · rw [upd_same]; unfold txs; rw [List.map_append]; rfl
          · obtain ⟨a, h1, h2⟩ := sub _ z
            have e := hid.2.2 g gP a (dL.1 a (List.mem_of_mem_take h1)) h2
            exact not_mem_take dL.2 hg (e ▸ h1)
          · rcases mem_snoc.mp hx with z | z
            · exact ⟨g, by rw [take_next hg]; exact mem_snoc.mpr (.inl rfl), z⟩
            · exact sub2 x z
      · rintro H2 ⟨S2, Mo, e2, df, _⟩
        refine ⟨_, rfl, q, _, _, _, rfl, rfl, SqT.of (S2 _ _ hk), rfl, _, rfl, q, _, _, _, rfl, rfl, SqT.of (S2 _ _ hk), rfl, _, rfl, cat_more (S2 _ _ hM) e2 nM (Lot.more nM df l24).2.1 fun H3 r s3 hr3 => ⟨(by decide : 3 ≤ sizeLine), fun p np => ?_⟩⟩
        have s4 := same_new (o := .tup [.str "lot", .ref l, .ref r]) np
        exact kY _ p (.lot L (M ++ Mo)) ((S2.trans s3).trans s4) ⟨_, _, upd_same, ⟨l, rfl, ((S2.trans s3).trans s4) _ _ hL⟩, r, rfl, s4 _ _ hr3⟩ ⟨⟨nL, Nat.le_trans (len_le_of_sub dL.2 dL.1) l24, dL⟩, Lot.more nM df l24⟩
    | nvr L M =>
      obtain ⟨u, v, hk, ⟨l, rfl, hL⟩, m, rfl, hM⟩ := hk
      refine ⟨_, rfl, q, _, _, _, rfl, rfl, SqT.of hk, rfl, rfl, false, rfl, iteF ?_⟩
      refine ⟨_, rfl, q, _, _, _, rfl, rfl, SqT.of hk, rfl, rfl, false, rfl, iteF ?_⟩
      refine ⟨_, rfl, q, _, _, _, rfl, rfl, SqT.of hk, rfl, rfl, false, rfl, iteF ?_⟩
      refine ⟨_, rfl, q, _, _, _, rfl, rfl, SqT.of hk, rfl, rfl, false, rfl, iteF ?_⟩
      refine ⟨_, rfl, q, _, _, _, rfl, rfl, SqT.of hk, rfl, rfl, true, rfl, iteT ?_⟩
      refine ⟨_, rfl, q, _, _, _, rfl, rfl, SqT.of hk, rfl, l, rfl, ⟨_, SqT.of hL⟩, fun D nD => ?_⟩
      obtain ⟨⟨nL, _, dL⟩, ⟨nM, lM, dM⟩⟩ := gk
      have lL := Nat.le_trans (len_le_of_sub dL.2 dL.1) l24
      refine lc_it (walk_tup (xs := txs L)) (fun i H2 => Same H H2 ∧ H2 D = some (.lst (txs ((L.take i).map tk)))) ⟨same_new nD, upd_same⟩ (fun i H2 _ p => SqT.of (p.1 _ _ hL)) ?_ ?_
      · rintro i x H2 H3 hi ⟨s2, e2⟩ ⟨rfl, hx⟩
        obtain ⟨g, hg, rfl⟩ := txs_get hx
        have gP : g ∈ P := dL.1 g (mem_at hg)
        refine ⟨rfl, ?_⟩
        refine ⟨_, rfl, _, rfl, hd, _, rfl, get_dm (.inl (s2 _ _ hh)) (inO gP), _, e2, ?_, s2.put nD, ?_⟩
        · rw [txs_len, List.length_map, List.length_take]
          omega
        · rw [upd_same, take_next hg, List.map_append]
          unfold txs
          rw [List.map_append]
          rfl
      · rintro H2 ⟨s2, e2⟩
        rw [txs_len, List.take_length] at e2
        refine ⟨_, rfl, q, _, _, _, rfl, rfl, SqT.of (s2 _ _ hk), rfl, m, rfl, ⟨_, SqT.of (s2 _ _ hM)⟩, fun N nN => ?_⟩
        refine lc_keep (walk_tup (xs := txs M)) (k := 3) (onT fun t => !decide (t ∈ L.map tk)) (fun H' s' => SqT.of (s' _ _ (s2 _ _ hM))) nN (txs_lt lM) (fun _ => rfl) (fun _ => rfl) (fun i x H' hx s' C hC => ?_) (fun H3 s3 e3 => ?_)
        · obtain ⟨t, ht, rfl⟩ := txs_get hx
          refine ⟨_, rfl, _, rfl, D, _, rfl, .inl (SqL.of (s' _ _ e2)), rfl, flat_txs _, _, rfl, ?_⟩
          rw [inV_txs]
          exact hC _ fun _ _ e => e
        · have ex : (txs M).filter (onT fun t => !decide (t ∈ L.map tk)) = txs (M.filter fun t => !decide (t ∈ L.map tk)) := txs_filter _ _
          rw [ex] at e3
          have S3 := s2.trans s3
          have dF : Diff P (M.filter fun t => !decide (t ∈ L.map tk)) := ⟨fun v hv => dM.1 v (List.mem_filter.mp hv).1, dM.2.sublist List.filter_sublist⟩
          generalize (M.filter fun t => !decide (t ∈ L.map tk)) = W at e3 dF ⊢
          by_cases c : W = []
          · subst c
            exact ⟨_, rfl, N, _, rfl, .inl (SqL.of e3), rfl, true, rfl, iteT (kN _ S3)⟩
          · have hl := List.length_pos_iff.mpr c
            refine ⟨_, rfl, N, _, rfl, .inl (SqL.of e3), rfl, false, congrArg V.bl (decide_eq_false (fun z => by have := V.int.inj z; rw [txs_len] at this; omega)), iteF ?_⟩
            refine ⟨_, rfl, q, _, _, _, rfl, rfl, SqT.of (S3 _ _ hk), rfl, _, rfl, N, _, rfl, .inl ⟨SqL.of e3, fun t nt => ⟨(by decide : 3 ≤ sizeLine), fun p np => ?_⟩⟩⟩
            have s4 := same_new (o := .tup (txs W)) nt
            have s5 := same_new (o := .tup [.str "never", .ref l, .ref t]) np
            exact kY _ p (.nvr L W) ((S3.trans s4).trans s5) ⟨_, _, upd_same, ⟨l, rfl, ((S3.trans s4).trans s5) _ _ hL⟩, t, rfl, s5 _ _ upd_same⟩ ⟨⟨nL, lL, dL⟩, c, Nat.le_trans (len_le_of_sub dF.2 dF.1) l24, dF⟩
end
end G
set_option Elab.async false
set_option linter.all false
set_option maxRecDepth 100000
set_option maxHeartbeats 4000000
namespace G
open PySem PySem.Spec PyProof.Rows L2 GM
def Pw {A : Type} (R : V → A → Prop) (xs : List V) (B : List A) : Prop := xs.length = B.length ∧ ∀ (i : Nat) (b : A), B[i]? = some b → ∃ v, xs[i]? = some v ∧ R v b
theorem Pw.nil {A : Type} {R : V → A → Prop} : Pw R [] [] := ⟨rfl, fun i b e => by cases e⟩
theorem Pw.uncons {A : Type} {R : V → A → Prop} {x : V} {xs : List V} {B : List A} (h : Pw R (x :: xs) B) : ∃ b B', B = b :: B' ∧ R x b ∧ Pw R xs B' := by
  cases B with
  | nil => exact absurd h.1 (by simp)
  | cons b B' =>
    obtain ⟨v, e, r⟩ := h.2 0 b rfl
    have ev : x = v := Option.some.inj e
    subst ev
    refine ⟨b, B', rfl, r, by have := h.1; simp at this; exact this, fun i b' e' => ?_⟩
    exact h.2 (i + 1) b' e'
theorem Pw.cons {A : Type} {R : V → A → Prop} {x : V} {b : A} {xs : List V} {B : List A} (r : R x b) (h : Pw R xs B) : Pw R (x :: xs) (b :: B) := by
  refine ⟨by simp [h.1], fun i b' e => ?_⟩
  cases i with
  | zero => exact ⟨x, rfl, by cases e; exact r⟩
  | succ i => exact h.2 i b' e
theorem Pw.sub {A : Type} {R : V → A → Prop} : ∀ {xs ys : List V}, ys.Sublist xs → ∀ {B : List A}, Pw R xs B → ∃ B' : List A, Pw R ys B' ∧ B'.Sublist B
  | _, _, .slnil, B, h => ⟨B, h, List.Sublist.refl _⟩
  | _, _, .cons x s, B, h => by
    obtain ⟨b, B', rfl, r, t⟩ := h.uncons
    obtain ⟨B2, h1, h2⟩ := t.sub s
    exact ⟨B2, h1, h2.cons b⟩
  | _, _, .cons₂ x s, B, h => by
    obtain ⟨b, B', rfl, r, t⟩ := h.uncons
    obtain ⟨B2, h1, h2⟩ := t.sub s
    exact ⟨b :: B2, h1.cons r, h2.cons₂ b⟩
theorem Pw.snoc {A : Type} {R : V → A → Prop} {x : V} {b : A} : ∀ {xs : List V} {B : List A}, Pw R xs B → R x b → Pw R (xs ++ [x]) (B ++ [b])
  | [], B, h, r => by
    cases B with
    | nil => exact Pw.nil.cons r
    | cons b B => exact absurd h.1 (by simp)
  | y :: xs, B, h, r => by
    obtain ⟨b', B', rfl, r', t⟩ := h.uncons
    exact (Pw.snoc t r).cons r'
theorem Pw.imp {A : Type} {R R' : V → A → Prop} {xs : List V} {B : List A} (h : Pw R xs B) (f : ∀ v b, R v b → R' v b) : Pw R' xs B := ⟨h.1, fun i b e => let ⟨v, a, c⟩ := h.2 i b e; ⟨v, a, f v b c⟩⟩
def RPr (H : Hp) (v : V) (p : Str × Str) : Prop := ∃ q, v = .ref q ∧ H q = some (.tup [.str p.1, .str p.2])
def RLk (H : Hp) (v : V) (k : Leak) : Prop := ∃ q, v = .ref q ∧ LeakAt H q k
theorem prs_pw {H : Hp} {xs : List V} {B : List (Str × Str)} : Prs H xs B ↔ Pw (RPr H) xs B :=
  ⟨fun h => ⟨h.1, fun i b e => let ⟨q, a, c⟩ := h.2 i b e; ⟨_, a, q, rfl, c⟩⟩, fun h => ⟨h.1, fun i b e => let ⟨v, a, q, c, d⟩ := h.2 i b e; ⟨q, c ▸ a, d⟩⟩⟩
theorem lks_pw {H : Hp} {xs : List V} {B : List Leak} : Lks H xs B ↔ Pw (RLk H) xs B :=
  ⟨fun h => ⟨h.1, fun i b e => let ⟨q, a, c⟩ := h.2 i b e; ⟨_, a, q, rfl, c⟩⟩, fun h => ⟨h.1, fun i b e => let ⟨v, a, q, c, d⟩ := h.2 i b e; ⟨q, c ▸ a, d⟩⟩⟩
theorem LeakAt.put {H : Hp} {q D : Addr} {ys : List V} {o : HO} (e : H D = some (.lst ys)) : ∀ {k : Leak}, LeakAt H q k → LeakAt (upd H D o) q k := by
  have st : ∀ {b : Addr} {xs : List V}, H b = some (.tup xs) → upd H D o b = some (.tup xs) := fun {b xs} h => by
    rw [upd_ne (ne_of h e (by intro z; cases z))]
    exact h
  have ts : ∀ {v : V} {L : List Str}, TupS H v L → TupS (upd H D o) v L := fun h => let ⟨l, a, c⟩ := h; ⟨l, a, st c⟩
  intro k h
  cases k with
  | nt a b => exact st h
  | ths a b => exact st h
  | one a L => obtain ⟨v, a1, t⟩ := h; exact ⟨v, st a1, ts t⟩
  | frm a L => obtain ⟨v, a1, t⟩ := h; exact ⟨v, st a1, ts t⟩
  | lot L M => obtain ⟨u, v, a1, t, r⟩ := h; exact ⟨u, v, st a1, ts t, ts r⟩
  | nvr L M => obtain ⟨u, v, a1, t, r⟩ := h; exact ⟨u, v, st a1, ts t, ts r⟩
theorem Lks.put {H : Hp} {D : Addr} {ys xs : List V} {o : HO} {l : List Leak} (h : Lks H xs l) (e : H D = some (.lst ys)) : Lks (upd H D o) xs l := ⟨h.1, fun i k q => let ⟨a, b, c⟩ := h.2 i k q; ⟨a, b, c.put e⟩⟩
theorem lc_sub {J : It} {G : Hp → Prop} {xs : List V} (w : Walk J xs.length G (YAt xs)) {k : Nat} {tt : TT} {vs : List Nat} {σ : L2.St} {H1 : Hp} {D : Addr} {Qd : Hp → Prop} (hG : ∀ H, Same H1 H → G H) (nD : H1 D = none) (hl : xs.length < sizeLine)
    (hw : ∀ v, wipe ((wipe σ vs).set k (some v)) vs = wipe σ vs) (hv : ∀ v, ((wipe σ vs).set k (some v))[k]? = some (some v))
    (step : ∀ (i : Nat) x H, xs[i]? = some x → Same H1 H → ∀ C : Bool → Hp → Prop, (∀ b H', Same H H' → C b H') → tt ((wipe σ vs).set k (some x)) H C)
    (hd : ∀ H ys, Same H1 H → ys.Sublist xs → H D = some (.lst ys) → Qd H) :
    ∃ W : Nat → Nat → Hp → Prop, (∃ m, W 0 m (upd H1 D (.lst []))) ∧ ∀ i m H, W i m H →
      (J.stop i H ∧ Qd H) ∨ (J.go i H ∧ ∃ Nx : Hp → Prop, (∀ H', Nx H' → ∃ m', m' < m ∧ W (i + 1) m' H') ∧ ∀ x H', J.yld i H x H' → gName k x (wipe σ vs) H' fun σ2 H2 => wipe σ2 vs = wipe σ vs ∧ tt σ2 H2 fun b H3 =>
        if b = true then tVar k σ2 H3 fun y H4 => ∃ acc, H4 D = some (.lst acc) ∧ acc.length < sizeLine ∧ Nx (upd H4 D (.lst (acc ++ [y]))) else Nx H3) := by
  refine lc_it w (fun i H => Same H1 H ∧ ∃ ys : List V, ys.Sublist (xs.take i) ∧ H D = some (.lst ys)) ⟨same_new nD, [], List.nil_sublist _, upd_same⟩ (fun i H _ z => hG H z.1) ?_ (fun H z => by
    obtain ⟨s, ys, a, b⟩ := z
    rw [List.take_length] at a
    exact hd H ys s a b)
  rintro i x H H' hi ⟨s1, ys, sy, e1⟩ ⟨rfl, hx⟩
  refine ⟨hw x, step i x _ hx s1 _ fun b H3 s3 => ?_⟩
  have e3 := s3 _ _ e1
  cases b with
  | true =>
    refine iteT ⟨x, hv x, _, e3, ?_, (s1.trans s3).put nD, ys ++ [x], ?_, upd_same⟩
    · have h1 := sy.length_le
      rw [List.length_take] at h1
      omega
    · rw [take_next hx]; exact sy.append_right [x]
  | false =>
    refine iteF ⟨s1.trans s3, ys, ?_, e3⟩
    rw [take_next hx]
    exact sy.trans (List.sublist_append_left _ _)
def Wld (H : Hp) (pl bl ll : Addr) (P : List Str) (B : List (Str × Str)) (l : List Leak) : Prop :=
  ∃ rs xs : List V, H pl = some (.lst (txs P)) ∧ H bl = some (.lst rs) ∧ Prs H rs B ∧ H ll = some (.lst xs) ∧ Lks H xs l ∧ GoodP P ∧ P.length ≤ 12 ∧ GoodB P B ∧ l.length ≤ 20 ∧ ∀ k, k ∈ l → GoodL P k
theorem Wld.same {H H' : Hp} {pl bl ll : Addr} {P : List Str} {B : List (Str × Str)} {l : List Leak} (h : Wld H pl bl ll P B l) (s : Same H H') : Wld H' pl bl ll P B l :=
  let ⟨rs, xs, h1, h2, h3, h4, h5, h6⟩ := h
  ⟨rs, xs, s _ _ h1, s _ _ h2, h3.same s, s _ _ h4, h5.same s, h6⟩
def spWorld (K : PySem.W.Frag) : Sp := fun vs H Q _ => ∃ (a : Addr) (ns : List Int), vs = [.ref a, .int 12, .int 20] ∧ SqL K H a (its ns) ∧
  ∀ (H' : Hp) (p pl bl ll : Addr) (P : List Str) (B : List (Str × Str)) (l : List Leak), Same H H' → H' p = some (.tup [.ref pl, .ref bl, .ref ll]) → Wld H' pl bl ll P B l → Q (.ref p) H'
section
variable {P : Program} {w : World} {K : PySem.W.Frag} {mg : Str → Option Value} {base : Heap}
theorem c_world (T : Tx K mg) : C8.Cal P w K mg base 3 "_law_world" (spWorld K) [] := by
  have cC := c_cell (P := P) (w := w) (base := base) T
  have cD := c_draws (P := P) (w := w) (base := base) T
  have cN := c_names (P := P) (w := w) (base := base) T
  have cB := c_barred (P := P) (w := w) (base := base) T
  have cL := c_leak (P := P) (w := w) (base := base) T
  have cH := c_hidden (P := P) (w := w) (base := base) T
  have cK := c_lkept (P := P) (w := w) (base := base) T
  have cM := c_mended (P := P) (w := w) (base := base) T
  obtain ⟨fd, F, b⟩ := T.f_l_world
  refine ⟨_, fd, _, [], F.ok (k := 2) sc_l_world (fun vs H Q E h => ?_) (fun cdv A outer s H vs Q E hr h => ?_), T.g__law_world, F.kp, b, .nil⟩
  · obtain ⟨_, _, rfl, _⟩ := h
    rfl
  · obtain ⟨a, ns, rfl, hs, k⟩ := h
    have hu := hu_of hr
    refine ⟨_, pss_cons (ps_set (i := 3) sc_l_world.nd rfl (.inl rfl) (C8.pe_c cD hr (by decide) rfl (pa_cons (C8.pe_c cC hr (by decide) rfl (pa_cons (pv 0) (pa_cons pe_int pa_nil))) (pa_cons pe_int pa_nil))))
      (pss_cons (ps_set (i := 4) sc_l_world.nd rfl (.inr rfl) (C8.pe_c cN hr (by decide) rfl (pa_cons (C8.pe_c cC hr (by decide) rfl (pa_cons (pv 0) (pa_cons pe_int pa_nil))) (pa_cons (pe_op op_add pe_int (pe_op op_mod (pe_callTy call_int1 (by rfl) T.b_int (by rfl) (pa_cons (pe_ix ix_list (pv 3) pe_int (fun _ _ => rfl)) pa_nil)) (pe_op op_sub (pv 1) pe_int))) pa_nil))))
      (pss_cons (ps_set (i := 5) sc_l_world.nd rfl (.inl rfl) (C8.pe_c cB hr (by decide) rfl (pa_cons (C8.pe_c cC hr (by decide) rfl (pa_cons (pv 0) (pa_cons pe_int pa_nil))) (pa_cons (pv 4) pa_nil))))
      (pss_cons (ps_setLc (i := 6) rfl sc_l_world.nd rfl rfl (sw_true rfl rfl rfl (by rfl)) (pi_range1 (by rfl) T.b_range (pa_cons (pe_op op_mod (pe_callTy call_int1 (by rfl) T.b_int (by rfl) (pa_cons (pe_ix ix_list (pv 3) pe_int (fun _ _ => rfl)) pa_nil)) (pe_op op_add (pv 2) pe_int)) pa_nil)) (blkOk_by (own := [("_law_k", 7)]) (N := N_l_world) (sc := defScope sl_world) (by decide +kernel))
          (fun _ _ _ _ _ => pg_name (i := 7) sc_l_world.nd rfl (Or.inl rfl)) (fun _ _ _ _ _ => pts_nil) (fun _ _ _ _ _ => C8.pe_c cL hr (by decide) rfl (pa_cons (C8.pe_c cC hr (by decide) rfl (pa_cons (pv 0) (pa_cons (pe_op op_add pe_int (pv 7)) pa_nil))) (pa_cons (pv 4) pa_nil))))
      (C8.pss_cut (ps_if (pt_cmpR op_gt (pe_op op_mod (pe_callTy call_int1 (by rfl) T.b_int (by rfl) (pa_cons (pe_ix ix_list (pv 3) pe_int (fun _ _ => rfl)) pa_nil)) pe_int) pe_int rfl)
        (pss_cons (ps_set (i := 8) sc_l_world.nd rfl (.inr rfl) (C8.pe_c cH hr (by decide) rfl (pa_cons (C8.pe_c cC hr (by decide) rfl (pa_cons (pv 0) (pa_cons pe_int pa_nil))) (pa_cons (pv 4) pa_nil))))
        (pss_cons (ps_setLc (i := 5) (tt := tTest (tOp rNe (tDGet (tVar 8) (tOp (rIxT K) (tVar 9) (tC (.int 0)))) (tOp (rIxT K) (tVar 9) (tC (.int 1))))) rfl sc_l_world.nd rfl rfl (sw_true rfl rfl rfl (by rfl)) (pi_list (pv 5)) (blkOk_by (own := [("_law_pair", 9)]) (N := N_l_world) (sc := defScope sl_world) (by decide +kernel))
            (fun _ _ _ _ _ => pg_name (i := 9) sc_l_world.nd rfl (Or.inl rfl)) (fun _ _ _ _ _ => pts_one (pt_cmpR op_ne (pe_dget hu (pv 8) (pe_ix ix_tup (pv 9) pe_int (fun _ _ => rfl)) (fun _ _ => rfl)) (pe_ix ix_tup (pv 9) pe_int (fun _ _ => rfl)) rfl)) (fun _ _ _ _ _ => pv 9))
        (pss_one (ps_if (pt_cmpR op_eq (pe_op op_mod (pe_callTy call_int1 (by rfl) T.b_int (by rfl) (pa_cons (pe_ix ix_list (pv 3) pe_int (fun _ _ => rfl)) pa_nil)) pe_int) pe_int rfl)
          (pss_one (ps_setLc (i := 6) rfl sc_l_world.nd rfl rfl (sw_true rfl rfl rfl (by rfl)) (pi_list (pv 6)) (blkOk_by (own := [("_law_leak_here", 10)]) (N := N_l_world) (sc := defScope sl_world) (by decide +kernel))
            (fun _ _ _ _ _ => pg_name (i := 10) sc_l_world.nd rfl (Or.inl rfl)) (fun _ _ _ _ _ => pts_one (pt_val (C8.pe_c cK hr (by decide) rfl (pa_cons (pv 10) (pa_cons (pv 8) pa_nil))))) (fun _ _ _ _ _ => pv 10)))
          (pss_cons (ps_setLc (i := 6) rfl sc_l_world.nd rfl rfl (sw_true rfl rfl rfl (by rfl)) (pi_list (pv 6)) (blkOk_by (own := [("_law_leak_here", 10)]) (N := N_l_world) (sc := defScope sl_world) (by decide +kernel))
            (fun _ _ _ _ _ => pg_name (i := 10) sc_l_world.nd rfl (Or.inl rfl)) (fun _ _ _ _ _ => pts_nil) (fun _ _ _ _ _ => C8.pe_c cM hr (by decide) rfl (pa_cons (pv 10) (pa_cons (pv 8) pa_nil))))
          (pss_one (ps_setLc (i := 6) rfl sc_l_world.nd rfl rfl (sw_true rfl rfl rfl (by rfl)) (pi_list (pv 6)) (blkOk_by (own := [("_law_leak_here", 10)]) (N := N_l_world) (sc := defScope sl_world) (by decide +kernel))
            (fun _ _ _ _ _ => pg_name (i := 10) sc_l_world.nd rfl (Or.inl rfl)) (fun _ _ _ _ _ => pts_one (pt_cmp (pc_notN (pv 10)))) (fun _ _ _ _ _ => pv 10)))))))) pss_nil)
      (pss_one (ps_ret (pe_tup (pa_cons (pv 4) (pa_cons (pv 5) (pa_cons (pv 6) pa_nil)))))))))), ?_⟩
    have low := small1000 (show 100 ≤ 1000 by decide)
    refine ⟨_, rfl, a, ns, 0, rfl, hs, fun c0 => ⟨c0, 3, rfl, by decide, fun H1 hp hds s1 nh eh lh gh => ?_⟩⟩
    obtain ⟨h0, e0⟩ := take_at (P := hds) (i := 0) (by omega)
    obtain ⟨h1, e1⟩ := take_at (P := hds) (i := 1) (by omega)
    obtain ⟨h2, e2⟩ := take_at (P := hds) (i := 2) (by omega)
    obtain ⟨m0, hm0, lm0⟩ := modlt (z := h0) (n := 11) (by decide)
    refine ⟨_, rfl, a, ns, 1, rfl, s1.seq hs, fun c1 => ⟨_, rfl, hp, _, 0, .int h0, rfl, rfl, SqL.of eh, atNat (its_at e0), .inl ⟨_, rfl, _, rfl, _, _, rfl, rfl, _, _, rfl, rfl, (by decide : (0 : Int) < 12 - 1), _, _, rfl, rfl, c1, 2 + m0, ?_, by omega, fun H2 pl P s2 npl epl lP nd gP => ?_⟩⟩⟩
    · have : (2 + h0 % (12 - 1) : Int) = ((2 + m0 : Nat) : Int) := by
        rw [show ((12 : Int) - 1) = ((11 : Nat) : Int) by decide, hm0]
        omega
      exact congrArg (fun z => [V.int c1, V.int z]) this
    have S2 := s1.trans s2
    have gp : GoodP P := ⟨by omega, by omega, nd, gP⟩
    refine ⟨_, rfl, a, ns, 2, rfl, S2.seq hs, fun c2 => ⟨_, rfl, c2, pl, P, rfl, epl, by omega, by omega, fun H3 bl rs B s3 ebl prs gb => ?_⟩⟩
    have S3 := S2.trans s3
    have eh3 := (s2.trans s3) _ _ eh
    obtain ⟨m1, hm1, lm1⟩ := modlt (z := h1) (n := 21) (by decide)
    have hm1' : h1 % (20 + 1 : Int) = (m1 : Nat) := by
      rw [show ((20 : Int) + 1) = ((21 : Nat) : Int) by decide, hm1]
    refine ⟨_, rfl, hp, _, 1, .int h1, rfl, rfl, SqL.of eh3, atNat (its_at e1), .inl ⟨_, rfl, _, rfl, _, _, rfl, rfl, _, _, rfl, rfl, (by decide : (0 : Int) < 20 + 1), (m1 : Nat), congrArg (fun z => [V.int z]) hm1', by omega, by omega, ?_⟩⟩
    rw [Int.toNat_natCast]
    intro D nD
    refine lc_it walk_range (fun i H4 => Same H3 H4 ∧ ∃ (xs : List V) (l : List Leak), H4 D = some (.lst xs) ∧ Lks H4 xs l ∧ l.length = i ∧ ∀ k, k ∈ l → GoodL P k) ⟨same_new nD, [], [], upd_same, ⟨rfl, fun i k e => by cases e⟩, rfl, by simp⟩ (fun _ _ _ _ => trivial) ?_ ?_
    · rintro i x H4 H5 hi ⟨s4, xs, l, e4, lk, ll, gl⟩ ⟨rfl, rfl⟩
      refine ⟨rfl, ?_⟩
      have S4 := S3.trans s4
      refine ⟨_, rfl, _, rfl, _, _, rfl, rfl, a, ns, 4 + i, ?_, S4.seq hs, fun ck => ⟨_, rfl, ck, pl, P, rfl, (s3.trans s4) _ _ epl, by omega, by omega, nd, fun H6 q kk s6 lq gk => ?_⟩⟩
      · exact congrArg (fun z => [V.ref a, V.int z]) (by omega : (4 + (0 + (i : Int)) : Int) = ((4 + i : Nat) : Int))
      have e6 := s6 _ _ e4
      refine ⟨_, e6, ?_, (s4.trans s6).put nD, xs ++ [.ref q], l ++ [kk], upd_same, ?_, by rw [List.length_append, ll]; rfl, fun z hz => ?_⟩
      · rw [lk.1, ll]; omega
      · exact Lks.put (lks_pw.mpr ((lks_pw.mp (lk.same s6)).snoc ⟨q, rfl, lq⟩)) e6
      · rcases List.mem_append.mp hz with z1 | z1
        · exact gl z z1
        · rw [List.mem_singleton.mp z1]; exact gk
    · rintro H4 ⟨s4, xs, l, e4, lk, ll, gl⟩
      have S4 := S3.trans s4
      have eh4 := s4 _ _ eh3
      have hpl4 := (s3.trans s4) _ _ epl
      refine ⟨fun σ' H' => ∃ (bl' tl' : Addr) (v8 : Option V) (B' : List (Str × Str)) (l' : List Leak), σ' = [some (.ref a), some (.int 12), some (.int 20), some (.ref hp), some (.ref pl), some (.ref bl'), some (.ref tl'), none, v8, none, none] ∧ Same H H' ∧ Wld H' pl bl' tl' P B' l', ?_, ?_⟩
      · by_cases c : 0 < h2 % 3
        · refine ⟨_, rfl, hp, _, 2, .int h2, rfl, rfl, SqL.of eh4, atNat (its_at e2), .inl ⟨_, rfl, _, _, rfl, rfl, (by decide : (0 : Int) < 3), _, _, rfl, rfl, true, congrArg V.bl (decide_eq_true c), iteT ?_⟩⟩
          refine ⟨_, rfl, a, ns, 3, rfl, S4.seq hs, fun c3 => ⟨_, rfl, c3, pl, P, rfl, hpl4, by omega, by omega, nd, fun H5 hd O tk s5 e5 hid => ?_⟩⟩
          have inO : ∀ {g : Str}, g ∈ P → g ∈ O := fun h => hid.1.mem_iff.mpr h
          have ebl5 := (s4.trans s5) _ _ ebl
          have prs5 := prs.same (s4.trans s5)
          refine ⟨_, rfl, bl, rfl, ⟨_, SqL.of ebl5⟩, fun D2 nD2 => ?_⟩
          refine lc_sub (walk_list (xs := rs)) (k := 9) (fun H' s' => SqL.of (s' _ _ ebl5)) nD2 (by rw [prs.1]; exact small1000 (by have := gb.1; omega)) (fun _ => rfl) (fun _ => rfl) (fun i x H' hx s' C hC => ?_) (fun H6 ys s6 sub e6 => ?_)
          · obtain ⟨p, q, hp1, rfl, hq⟩ := (prs5.same s').at hx
            have gpr := gb.2 p (mem_at hp1)
            exact ⟨_, rfl, _, rfl, q, _, 0, .str p.1, rfl, rfl, SqT.of hq, rfl, hd, _, rfl, get_dm (.inl (s' _ _ e5)) (inO gpr.1), _, rfl, q, _, 1, .str p.2, rfl, rfl, SqT.of hq, rfl, rfl, _, rfl, hC _ _ fun _ _ e => e⟩
          obtain ⟨B', pw, sB⟩ := (prs_pw.mp (prs5.same s6)).sub sub
          have gb' : GoodB P B' := ⟨Nat.le_trans sB.length_le gb.1, fun p hp' => gb.2 p (sB.mem hp')⟩
          have S6 := (S4.trans s5).trans s6
          have t6 := s5.trans s6
          have e46 := t6 _ _ e4
          have lk6 := lk.same t6
          by_cases c1 : h2 % 3 = 1
          · refine ⟨_, rfl, hp, _, 2, .int h2, rfl, rfl, SqL.of (t6 _ _ eh4), atNat (its_at e2), .inl ⟨_, rfl, _, _, rfl, rfl, (by decide : (0 : Int) < 3), rfl, true, congrArg V.bl (decide_eq_true (congrArg V.int c1)), iteT ?_⟩⟩
            refine ⟨_, rfl, D, rfl, ⟨_, SqL.of e46⟩, fun D3 nD3 => ?_⟩
            refine lc_sub (walk_list (xs := xs)) (k := 10) (fun H' s' => SqL.of (s' _ _ e46)) nD3 (by rw [lk.1, ll]; omega) (fun _ => rfl) (fun _ => rfl) (fun i x H' hx s' C hC => ?_) (fun H7 zs s7 sub2 e7 => ?_)
            · obtain ⟨kk, q, hk1, rfl, hq⟩ := (lk6.same s').at hx
              exact ⟨_, rfl, _, rfl, q, hd, kk, O, tk, rfl, hq, s' _ _ (s6 _ _ e5), fun cc H'' s'' => ⟨cc, rfl, hC _ _ s''⟩⟩
            obtain ⟨l', pw2, sl⟩ := (lks_pw.mp (lk6.same s7)).sub sub2
            exact ⟨D2, D3, _, B', l', rfl, S6.trans s7, ys, zs, (t6.trans s7) _ _ hpl4, s7 _ _ e6, (prs_pw.mpr pw).same s7, e7, lks_pw.mpr pw2, gp, by omega, gb', by have := sl.length_le; omega, fun z hz => gl z (sl.mem hz)⟩
          · refine ⟨_, rfl, hp, _, 2, .int h2, rfl, rfl, SqL.of (t6 _ _ eh4), atNat (its_at e2), .inl ⟨_, rfl, _, _, rfl, rfl, (by decide : (0 : Int) < 3), rfl, false, congrArg V.bl (decide_eq_false (fun z => c1 (V.int.inj z))), iteF ?_⟩⟩
            refine ⟨_, rfl, D, rfl, ⟨_, SqL.of e46⟩, fun D3 nD3 => ?_⟩
            refine lc_it (walk_list (xs := xs)) (fun i H7 => Same H6 H7 ∧ ∃ (zs : List V) (l' : List Leak), H7 D3 = some (.lst zs) ∧ zs.length = i ∧ Lks H7 (zs.filter fun v => !decide (v = V.non)) l' ∧ l'.length ≤ i ∧ ∀ k, k ∈ l' → GoodL P k) ⟨same_new nD3, [], [], upd_same, rfl, ⟨rfl, fun i k e => by cases e⟩, Nat.le_refl _, by simp⟩ (fun i H7 _ p => SqL.of (p.1 _ _ e46)) ?_ ?_
            · rintro i x H7 H8 hi ⟨s7, zs, l', e7, lz, lk7, ll7, gl7⟩ ⟨rfl, hx⟩
              obtain ⟨kk, q, hk1, rfl, hq⟩ := (lk6.same s7).at hx
              refine ⟨rfl, ?_⟩
              have lz2 : zs.length < sizeLine := by
                have := lk.1
                omega
              refine ⟨_, rfl, _, rfl, q, hd, kk, P, O, tk, rfl, hq, gl kk (mem_at hk1), (s6.trans s7) _ _ e5, hid, by omega, nd, fun H9 q' k' s9 lq gk => ?_, fun H9 s9 => ?_⟩
              · have e9 := s9 _ _ e7
                refine ⟨_, e9, lz2, (s7.trans s9).put nD3, zs ++ [.ref q'], l' ++ [k'], upd_same, by rw [List.length_append, lz]; rfl, ?_, by rw [List.length_append]; exact Nat.add_le_add_right ll7 1, fun z hz => ?_⟩
                · rw [List.filter_append]
                  exact Lks.put (lks_pw.mpr ((lks_pw.mp (lk7.same s9)).snoc ⟨q', rfl, lq⟩)) e9
                · rcases List.mem_append.mp hz with z1 | z1
                  · exact gl7 z z1
                  · rw [List.mem_singleton.mp z1]; exact gk
              · have e9 := s9 _ _ e7
                refine ⟨_, e9, lz2, (s7.trans s9).put nD3, zs ++ [.non], l', upd_same, by rw [List.length_append, lz]; rfl, ?_, by omega, gl7⟩
                rw [List.filter_append]
                show Lks _ (zs.filter (fun v => !decide (v = V.non)) ++ []) l'
                rw [List.append_nil]
                exact Lks.put (lk7.same s9) e9
            · rintro H7 ⟨s7, zs, l', e7, lz, lk7, ll7, gl7⟩
              refine ⟨_, rfl, D3, rfl, ⟨_, SqL.of e7⟩, fun D4 nD4 => ?_⟩
              refine lc_keep (walk_list (xs := zs)) (k := 10) (fun v => !decide (v = V.non)) (fun H' s' => SqL.of (s' _ _ e7)) nD4 (by have := lk.1; omega) (fun _ => rfl) (fun _ => rfl) (fun i x H' hx s' C hC => ?_) (fun H8 s8 e8 => ?_)
              · exact ⟨_, rfl, _, rfl, hC _ fun _ _ e => e⟩
              · have t8 := s7.trans s8
                exact ⟨D2, D4, _, B', l', rfl, S6.trans t8, ys, _, (t6.trans t8) _ _ hpl4, t8 _ _ e6, (prs_pw.mpr pw).same t8, e8, lk7.same s8, gp, by omega, gb', by have := lk.1; omega, gl7⟩
        · refine ⟨_, rfl, hp, _, 2, .int h2, rfl, rfl, SqL.of eh4, atNat (its_at e2), .inl ⟨_, rfl, _, _, rfl, rfl, (by decide : (0 : Int) < 3), _, _, rfl, rfl, false, congrArg V.bl (decide_eq_false c), iteF ?_⟩⟩
          exact ⟨bl, D, _, B, l, rfl, S4, rs, xs, hpl4, s4 _ _ ebl, prs.same s4, e4, lk, gp, by omega, gb, by omega, gl⟩
      · rintro σ' H' ⟨bl', tl', v8, B', l', rfl, s', wl⟩
        refine ⟨_, rfl, _, rfl, _, rfl, (by decide : 3 ≤ sizeLine), fun p np => ?_⟩
        have s9 := same_new (o := .tup [.ref pl, .ref bl', .ref tl']) np
        exact k _ p pl bl' tl' P B' l' (s'.trans s9) upd_same (wl.same s9)
end
end G
set_option Elab.async false
set_option linter.all false
set_option maxRecDepth 100000
set_option maxHeartbeats 4000000
namespace G
open PySem PySem.Spec PyProof.Rows L2 GM
def spEq1 : Sp := fun vs H Q _ => ((∃ t : Str, vs = [.str t, .str t]) ∨ ∃ i : Int, vs = [.int i, .int i]) ∧ Q (.bl true) H
def spEq2 : Sp := fun vs H Q _ => ∃ (a b : Addr) (L : List Str), vs = [.ref a, .ref b] ∧ ((H a = some (.lst (txs L)) ∧ H b = some (.lst (txs L))) ∨ (H a = some (.tup (txs L)) ∧ H b = some (.tup (txs L)))) ∧ L.length ≤ 24 ∧ ∀ H', Same H H' → Q (.bl true) H'
section
variable {P : Program} {w : World} {K : PySem.W.Frag} {mg : Str → Option Value} {base : Heap}
theorem kb1 : kitB "str" "list" = some false := by decide +kernel
theorem kb2 : kitB "str" "tuple" = some false := by decide +kernel
theorem kb3 : kitB "str" "dict" = some false := by decide +kernel
theorem kb4 : kitB "str" "bool" = some false := by decide +kernel
theorem kb5 : kitB "int" "list" = some false := by decide +kernel
theorem kb6 : kitB "int" "tuple" = some false := by decide +kernel
theorem kb7 : kitB "int" "dict" = some false := by decide +kernel
theorem kb8 : kitB "int" "bool" = some false := by decide +kernel
theorem kb9 : kitB "int" "str" = some false := by decide +kernel
theorem kb10 : kitB "tuple" "list" = some false := by decide +kernel
theorem kb11 : kitB "list" "tuple" = some false := by decide +kernel
theorem kb12 : kitB "list" "list" = some true := by decide +kernel
theorem kb13 : kitB "tuple" "tuple" = some true := by decide +kernel
theorem c_eq1 (T : Tx K mg) : C8.Cal P w K mg base 1 "_law_equal" spEq1 [] := by
  obtain ⟨fd, F, b⟩ := T.f_l_equal
  refine ⟨_, fd, _, [], F.ok (k := 0) sc_l_equal (fun vs H Q E h => ?_) (fun cdv A outer s H vs Q E hr h => ?_), T.g__law_equal, F.kp, b, .nil⟩
  · obtain ⟨⟨_, rfl⟩ | ⟨_, rfl⟩, _⟩ := h <;> rfl
  · obtain ⟨hv, k⟩ := h
    refine ⟨_, pss_cons (ps_if (PW.pt (pw_or (pt_val (pe_callB call_isi (by rfl) T.b_isinstance (by rfl) (pa_cons (pv 1) (pa_cons (pe_bltn (by rfl) T.b_list (by rfl) (rTy _)) pa_nil)))) (pw_or1 (pt_val (pe_callB call_isi (by rfl) T.b_isinstance (by rfl) (pa_cons (pv 1) (pa_cons (pe_bltn (by rfl) T.b_tuple (by rfl) (rTy _)) pa_nil))))))) pss_never pss_nil)
      (pss_cons (ps_if (pt_val (pe_callB call_isi (by rfl) T.b_isinstance (by rfl) (pa_cons (pv 1) (pa_cons (pe_bltn (by rfl) T.b_dict (by rfl) (rTy _)) pa_nil)))) pss_never pss_nil)
      (pss_cons (ps_if (pt_val (pe_callB call_isi (by rfl) T.b_isinstance (by rfl) (pa_cons (pv 1) (pa_cons (pe_bltn (by rfl) T.b_bool (by rfl) (rTy _)) pa_nil)))) pss_never pss_nil)
      (pss_cons (ps_if (pt_val (pe_callB call_isi (by rfl) T.b_isinstance (by rfl) (pa_cons (pv 1) (pa_cons (pe_bltn (by rfl) T.b_str (by rfl) (rTy _)) pa_nil))))
        (pss_one (ps_ret (pe_and (pe_callB RZ.call_isTy (by rfl) T.b_isinstance (by rfl) (pa_cons (pv 0) (pa_cons (pe_bltn (by rfl) T.b_str (by rfl) (rTy _)) pa_nil))) (pe_one (pe_cmpR op_eq (pv 0) (pv 1) rfl))))) pss_nil)
      (pss_cons (ps_if (pt_val (pe_callB RZ.call_isTy (by rfl) T.b_isinstance (by rfl) (pa_cons (pv 1) (pa_cons (pe_bltn (by rfl) T.b_int (by rfl) (rTy _)) pa_nil))))
        (pss_one (ps_ret (pe_and (pe_callB RZ.call_isTy (by rfl) T.b_isinstance (by rfl) (pa_cons (pv 0) (pa_cons (pe_bltn (by rfl) T.b_int (by rfl) (rTy _)) pa_nil)))
          (pe_and (pe_not (pe_callB call_isi (by rfl) T.b_isinstance (by rfl) (pa_cons (pv 0) (pa_cons (pe_bltn (by rfl) T.b_bool (by rfl) (rTy _)) pa_nil)))) (pe_one (pe_cmpR op_eq (pv 0) (pv 1) rfl)))))) pss_nil)
      (pss_one ps_never))))), ?_⟩
    rcases hv with ⟨t, rfl⟩ | ⟨i, rfl⟩
    · refine ⟨_, rfl, _, _, .type "str", _, false, rfl, .ty _, .base (.str t), kit_ty kb1, false, rfl, iteF ?_⟩
      refine ⟨_, rfl, _, _, .type "str", _, false, rfl, .ty _, .base (.str t), kit_ty kb2, false, rfl, iteF ?_⟩
      refine ⟨_, rfl, _, _, .type "str", _, false, rfl, .ty _, .base (.str t), kit_ty kb3, false, rfl, iteF ?_⟩
      refine ⟨_, rfl, _, _, .type "str", _, false, rfl, .ty _, .base (.str t), kit_ty kb4, false, rfl, iteF ?_⟩
      refine ⟨_, rfl, _, _, .type "str", _, true, rfl, .ty _, .base (.str t), kit_ty (by decide +kernel), true, rfl, iteT ?_⟩
      refine ⟨_, rfl, _, _, rfl, .str t, true, rfl, iteT ⟨_, rfl, _, rfl, rfl, ?_⟩⟩
      rw [decide_eq_true rfl]
      exact k
    · refine ⟨_, rfl, _, _, .type "int", _, false, rfl, .ty _, .base (.int i), kit_ty kb5, false, rfl, iteF ?_⟩
      refine ⟨_, rfl, _, _, .type "int", _, false, rfl, .ty _, .base (.int i), kit_ty kb6, false, rfl, iteF ?_⟩
      refine ⟨_, rfl, _, _, .type "int", _, false, rfl, .ty _, .base (.int i), kit_ty kb7, false, rfl, iteF ?_⟩
      refine ⟨_, rfl, _, _, .type "int", _, false, rfl, .ty _, .base (.int i), kit_ty kb8, false, rfl, iteF ?_⟩
      refine ⟨_, rfl, _, _, .type "int", _, false, rfl, .ty _, .base (.int i), kit_ty kb9, false, rfl, iteF ?_⟩
      refine ⟨_, rfl, _, _, rfl, .int i, true, rfl, iteT ?_⟩
      refine ⟨_, rfl, _, _, rfl, .int i, true, rfl, iteT ?_⟩
      refine ⟨_, rfl, _, _, .type "int", _, false, rfl, .ty _, .base (.int i), kit_ty kb8, false, rfl, true, rfl, iteT ⟨_, rfl, _, rfl, rfl, ?_⟩⟩
      rw [decide_eq_true rfl]
      exact k
theorem c_eq2 (T : Tx K mg) : C8.Cal P w K mg base 2 "_law_equal" spEq2 [] := by
  have c1 := c_eq1 (P := P) (w := w) (base := base) T
  obtain ⟨fd, F, b⟩ := T.f_l_equal
  refine ⟨_, fd, _, [], F.ok (k := 1) sc_l_equal (fun vs H Q E h => ?_) (fun cdv A outer s H vs Q E hr h => ?_), T.g__law_equal, F.kp, b, .nil⟩
  · obtain ⟨_, _, _, rfl, _⟩ := h
    rfl
  · obtain ⟨x, y, L, rfl, hxy, lL, k⟩ := h
    refine ⟨_, pss_cons (ps_if (PW.pt (pw_or (pt_val (pe_callB call_isi (by rfl) T.b_isinstance (by rfl) (pa_cons (pv 1) (pa_cons (pe_bltn (by rfl) T.b_list (by rfl) (rTy _)) pa_nil)))) (pw_or1 (pt_val (pe_callB call_isi (by rfl) T.b_isinstance (by rfl) (pa_cons (pv 1) (pa_cons (pe_bltn (by rfl) T.b_tuple (by rfl) (rTy _)) pa_nil)))))))
        (pss_cons (ps_if (PW.pt (pw_and (pt_val (pe_callB call_isi (by rfl) T.b_isinstance (by rfl) (pa_cons (pv 1) (pa_cons (pe_bltn (by rfl) T.b_list (by rfl) (rTy _)) pa_nil)))) (pw_and1 (pt_not (pt_val (pe_callB call_isi (by rfl) T.b_isinstance (by rfl) (pa_cons (pv 0) (pa_cons (pe_bltn (by rfl) T.b_list (by rfl) (rTy _)) pa_nil)))))))) (pss_one ps_never) pss_nil)
        (pss_cons (ps_if (PW.pt (pw_and (pt_val (pe_callB call_isi (by rfl) T.b_isinstance (by rfl) (pa_cons (pv 1) (pa_cons (pe_bltn (by rfl) T.b_tuple (by rfl) (rTy _)) pa_nil)))) (pw_and1 (pt_not (pt_val (pe_callB call_isi (by rfl) T.b_isinstance (by rfl) (pa_cons (pv 0) (pa_cons (pe_bltn (by rfl) T.b_tuple (by rfl) (rTy _)) pa_nil)))))))) (pss_one ps_never) pss_nil)
        (pss_cons (ps_if (pt_cmpR op_ne (pe_callB call_len_seq (by rfl) T.b_len (by rfl) (pa_cons (pv 0) pa_nil)) (pe_callB call_len_seq (by rfl) T.b_len (by rfl) (pa_cons (pv 1) pa_nil)) rfl) (pss_one ps_never) pss_nil)
        (pss_one (ps_ret (pe_callB (cr_all rfl) (by rfl) T.b_all (by rfl) (pa_cons (pe_lc (te := tCall spEq1 [] C8.E0 (tCons (tOp (rIx K) (tVar 0) (tVar 2)) (tCons (tOp (rIx K) (tVar 1) (tVar 2)) tNil))) rfl sc_l_equal.nd (pi_range1 (by rfl) T.b_range (pa_cons (pe_callB call_len_seq (by rfl) T.b_len (by rfl) (pa_cons (pv 1) pa_nil)) pa_nil)) (blkOk_by (own := [("_law_k", 2)]) (N := N_l_equal) (sc := defScope sl_equal) (by decide +kernel))
            (fun _ _ _ _ _ => pg_name (i := 2) sc_l_equal.nd rfl (Or.inl rfl)) (fun _ _ _ _ _ => pts_nil) (fun _ _ _ _ _ => C8.pe_c c1 hr (Nat.le_refl _) rfl (pa_cons (pe_ix ix_seq (pv 0) (pv 2) (fun _ _ => rfl)) (pa_cons (pe_ix ix_seq (pv 1) (pv 2) (fun _ _ => rfl)) pa_nil)))) pa_nil))))))) pss_nil)
      pss_never, ?_⟩
    have low := small1000 (show 100 ≤ 1000 by decide)
    have sq : ∀ H1, Same H H1 → (SqL K H1 x (txs L) ∨ SqT K H1 x (txs L)) ∧ (SqL K H1 y (txs L) ∨ SqT K H1 y (txs L)) := fun H1 s1 => by
      rcases hxy with ⟨h1, h2⟩ | ⟨h1, h2⟩
      · exact ⟨.inl (SqL.of (s1 _ _ h1)), .inl (SqL.of (s1 _ _ h2))⟩
      · exact ⟨.inr (SqT.of (s1 _ _ h1)), .inr (SqT.of (s1 _ _ h2))⟩
    have ix : ∀ {H1 : Hp} {z : Addr} {i : Nat} {t : Str} {Qc : VK}, (SqL K H1 z (txs L) ∨ SqT K H1 z (txs L)) → L[i]? = some t → Qc (.str t) H1 → rIx K (.ref z) (.int (0 + (i : Int))) H1 Qc := fun {H1 z i t Qc} h ht q => by
      have z0 : (0 + (i : Int)) = (i : Int) := by omega
      rcases h with h | h
      · exact .inl ⟨z, _, _, _, rfl, rfl, h, atI_some z0 (txs_at ht), q⟩
      · exact .inr (.inl ⟨z, _, _, _, rfl, rfl, h, atI_some z0 (txs_at ht), q⟩)
    have sH : Same H H := fun _ _ e => e
    rcases hxy with ⟨h1, h2⟩ | ⟨h1, h2⟩
    · refine ⟨_, rfl, _, _, .type "list", _, true, rfl, .ty _, .base (.lst h2), kit_ty kb12, true, rfl, iteT (iteT ?_)⟩
      refine ⟨_, rfl, _, _, .type "list", _, true, rfl, .ty _, .base (.lst h2), kit_ty kb12, true, rfl, iteT ⟨_, rfl, _, _, .type "list", _, true, rfl, .ty _, .base (.lst h1), kit_ty kb12, true, rfl, iteF ?_⟩⟩
      refine ⟨_, rfl, _, _, .type "list", _, false, rfl, .ty _, .base (.lst h2), kit_ty kb11, false, rfl, iteF (iteF ?_)⟩
      refine ⟨_, rfl, x, txs L, rfl, (sq H sH).1, _, rfl, y, txs L, rfl, (sq H sH).2, rfl, false, by simp, iteF ?_⟩
      refine ⟨_, rfl, y, txs L, rfl, (sq H sH).2, (L.length : Nat), by rw [txs_len], by omega, by omega, ?_⟩
      rw [Int.toNat_natCast]
      intro D nD
      refine lc_it walk_range (fun i H1 => Same H H1 ∧ H1 D = some (.lst ((List.replicate i true).map V.bl))) ⟨same_new nD, upd_same⟩ (fun _ _ _ _ => trivial) ?_ ?_
      · rintro i z H1 H2 hi ⟨s1, e1⟩ ⟨rfl, rfl⟩
        obtain ⟨t, ht⟩ := take_at hi
        refine ⟨rfl, ?_⟩
        refine ⟨_, rfl, _, rfl, ix (sq _ s1).1 ht ⟨_, rfl, _, rfl, ix (sq _ s1).2 ht ⟨.inl ⟨t, rfl⟩, _, e1, ?_, s1.put nD, ?_⟩⟩⟩
        · rw [List.length_map, List.length_replicate]; omega
        · rw [upd_same, List.replicate_succ', List.map_append]; rfl
      · rintro H1 ⟨s1, e1⟩
        refine ⟨D, List.replicate L.length true, rfl, SqL.of e1, ?_⟩
        have e : (List.replicate L.length true).all id = true := List.all_eq_true.mpr fun z hz => by rw [(List.mem_replicate.mp hz).2]; rfl
        rw [e]
        exact k _ s1
    · refine ⟨_, rfl, _, _, .type "tuple", _, false, rfl, .ty _, .base (.tup h2), kit_ty kb10, false, rfl, iteF ?_⟩
      refine ⟨_, rfl, _, _, .type "tuple", _, true, rfl, .ty _, .base (.tup h2), kit_ty kb13, true, rfl, iteT ?_⟩
      refine ⟨_, rfl, _, _, .type "tuple", _, false, rfl, .ty _, .base (.tup h2), kit_ty kb10, false, rfl, iteF (iteF ?_)⟩
      refine ⟨_, rfl, _, _, .type "tuple", _, true, rfl, .ty _, .base (.tup h2), kit_ty kb13, true, rfl, iteT ⟨_, rfl, _, _, .type "tuple", _, true, rfl, .ty _, .base (.tup h1), kit_ty kb13, true, rfl, iteF ?_⟩⟩
      refine ⟨_, rfl, x, txs L, rfl, (sq H sH).1, _, rfl, y, txs L, rfl, (sq H sH).2, rfl, false, by simp, iteF ?_⟩
      refine ⟨_, rfl, y, txs L, rfl, (sq H sH).2, (L.length : Nat), by rw [txs_len], by omega, by omega, ?_⟩
      rw [Int.toNat_natCast]
      intro D nD
      refine lc_it walk_range (fun i H1 => Same H H1 ∧ H1 D = some (.lst ((List.replicate i true).map V.bl))) ⟨same_new nD, upd_same⟩ (fun _ _ _ _ => trivial) ?_ ?_
      · rintro i z H1 H2 hi ⟨s1, e1⟩ ⟨rfl, rfl⟩
        obtain ⟨t, ht⟩ := take_at hi
        refine ⟨rfl, ?_⟩
        refine ⟨_, rfl, _, rfl, ix (sq _ s1).1 ht ⟨_, rfl, _, rfl, ix (sq _ s1).2 ht ⟨.inl ⟨t, rfl⟩, _, e1, ?_, s1.put nD, ?_⟩⟩⟩
        · rw [List.length_map, List.length_replicate]; omega
        · rw [upd_same, List.replicate_succ', List.map_append]; rfl
      · rintro H1 ⟨s1, e1⟩
        refine ⟨D, List.replicate L.length true, rfl, SqL.of e1, ?_⟩
        have e : (List.replicate L.length true).all id = true := List.all_eq_true.mpr fun z hz => by rw [(List.mem_replicate.mp hz).2]; rfl
        rw [e]
        exact k _ s1
end
end G
set_option Elab.async false
set_option linter.all false
set_option maxRecDepth 100000
set_option maxHeartbeats 4000000
namespace G
open PySem PySem.Spec PyProof.Rows L2 GM
def rTupOf (K : PySem.W.Frag) : List V → Hp → VK → Prop := fun xs H Q => ∃ p ys, xs = [V.ref p] ∧ ((SqL K H p ys ∧ ∀ l, H l = none → Q (.ref l) (upd H l (.tup ys))) ∨ (SqT K H p ys ∧ Q (.ref p) H))
theorem mk_book {K : PySem.W.Frag} {σ : L2.St} {H : Hp} {i j m : Nat} {pl bl ll : Addr} {P : List Str} {B : List (Str × Str)} {l : List Leak} {rs xs : List V} (hi : σ[i]? = some (some (.ref pl))) (hj : σ[j]? = some (some (.ref bl))) (hm : σ[m]? = some (some (.ref ll)))
    (hp : H pl = some (.lst (txs P))) (hb : H bl = some (.lst rs)) (pr : Prs H rs B) (hl : H ll = some (.lst xs)) (lk : Lks H xs l) (gp : GoodP P) (gb : GoodB P B) (l40 : l.length ≤ 40) (gl : ∀ k, k ∈ l → GoodL P k) {Qc : VK}
    (k : ∀ (H' : Hp) (a : Addr), Same H H' → BookAt K H' a P B l → Qc (.ref a) H') :
    tMake (CB K) (spBookInit K) [] C8.E0 (tCons (tMake (CP K) (spPartyInit (CP K)) [] C8.E0 (tCons (tCB (rTupOf K) (tCons (tVar i) tNil)) (tCons (tCB (rListOf K) (tCons (tVar j) tNil)) tNil))) (tCons (tCB (rListOf K) (tCons (tVar m) tNil)) tNil)) σ H Qc := by
  refine ⟨_, hi, pl, _, rfl, .inl ⟨SqL.of hp, fun t nt => ?_⟩⟩
  have s1 := same_new (o := .tup (txs P)) nt
  have f1 : upd H t (.tup (txs P)) t = some (.tup (txs P)) := upd_same
  generalize upd H t (.tup (txs P)) = H1 at s1 f1 ⊢
  refine ⟨_, hj, bl, rs, rfl, .inl (SqL.of (s1 _ _ hb)), fun b2 nb2 => ?_⟩
  have s2 := same_new (o := .lst rs) nb2
  have f2 : upd H1 b2 (.lst rs) b2 = some (.lst rs) := upd_same
  generalize upd H1 b2 (.lst rs) = H2 at s2 f2 ⊢
  have S2 := s1.trans s2
  intro x dx nx ndx ne
  have s3 := mk_at (C := CP K) nx ndx
  refine ⟨x, dx, t, b2, P, rs, B, rfl, upd_same, s3 _ _ (s2 _ _ f1), s3 _ _ f2, (pr.same S2).same s3, gp, gb, fun H' k' pa => ⟨rfl, ?_⟩⟩
  have s4 := mk_kept nx ndx ne k'
  have S4 := S2.trans s4
  refine ⟨_, hm, ll, xs, rfl, .inl (SqL.of (S4 _ _ hl)), fun l2 nl2 => ?_⟩
  have s5 := same_new (o := .lst xs) nl2
  have f5 : upd H' l2 (.lst xs) l2 = some (.lst xs) := upd_same
  generalize upd H' l2 (.lst xs) = H5 at s5 f5 ⊢
  have S5 := S4.trans s5
  intro y dy ny ndy ney
  have s6 := mk_at (C := CB K) ny ndy
  refine ⟨y, dy, x, l2, P, B, xs, l, rfl, upd_same, (pa.same s5).same s6, gp, s6 _ _ f5, (lk.same S5).same s6, l40, gl, fun H'' k'' ba => ⟨rfl, k H'' y (S5.trans (mk_kept ny ndy ney k'')) ba⟩⟩
theorem mk_book1 {K : PySem.W.Frag} {σ : L2.St} {H : Hp} {i j m : Nat} {pl bl ll : Addr} {P : List Str} {B : List (Str × Str)} {l : List Leak} {rs xs : List V} (hi : σ[i]? = some (some (.ref pl))) (hj : σ[j]? = some (some (.ref bl))) (hm : σ[m]? = some (some (.ref ll)))
    (hp : H pl = some (.lst (txs P))) (hb : H bl = some (.lst rs)) (pr : Prs H rs B) (hl : H ll = some (.lst xs)) (lk : Lks H xs l) (gp : GoodP P) (gb : GoodB P B) (l40 : l.length ≤ 40) (gl : ∀ k, k ∈ l → GoodL P k) {n : Nat} {u : TS} {D : Ends}
    (k : ∀ (H' : Hp) (a : Addr), Same H H' → BookAt K H' a P B l → u D (σ.set n (some (.ref a))) H') : tSeq (tAsg (tMake (CB K) (spBookInit K) [] C8.E0 (tCons (tMake (CP K) (spPartyInit (CP K)) [] C8.E0 (tCons (tCB (rTupOf K) (tCons (tVar i) tNil)) (tCons (tCB (rListOf K) (tCons (tVar j) tNil)) tNil))) (tCons (tCB (rListOf K) (tCons (tVar m) tNil)) tNil))) (gName n)) u D σ H :=
  mk_book (Qc := fun x H1 => u D (σ.set n (some x)) H1) hi hj hm hp hb pr hl lk gp gb l40 gl k
theorem mk_book2 {K : PySem.W.Frag} {σ : L2.St} {H : Hp} {i j m : Nat} {pl bl ll : Addr} {P : List Str} {B : List (Str × Str)} {l : List Leak} {rs xs : List V} (hi : σ[i]? = some (some (.ref pl))) (hj : σ[j]? = some (some (.ref bl))) (hm : σ[m]? = some (some (.ref ll)))
    (hp : H pl = some (.lst (txs P))) (hb : H bl = some (.lst rs)) (pr : Prs H rs B) (hl : H ll = some (.lst xs)) (lk : Lks H xs l) (gp : GoodP P) (gb : GoodB P B) (l40 : l.length ≤ 40) (gl : ∀ k, k ∈ l → GoodL P k) {n : Nat} {u : TS} {D : Ends} {sp : Sp}
    (k : ∀ (H' : Hp) (a : Addr), Same H H' → BookAt K H' a P B l → sp [.ref a] H' (fun x H1 => u D (σ.set n (some x)) H1) C8.E0) : tSeq (tAsg (tCall sp [] C8.E0 (tCons (tMake (CB K) (spBookInit K) [] C8.E0 (tCons (tMake (CP K) (spPartyInit (CP K)) [] C8.E0 (tCons (tCB (rTupOf K) (tCons (tVar i) tNil)) (tCons (tCB (rListOf K) (tCons (tVar j) tNil)) tNil))) (tCons (tCB (rListOf K) (tCons (tVar m) tNil)) tNil))) tNil)) (gName n)) u D σ H :=
  mk_book (Qc := fun x H1 => sp [x] H1 (fun x H1 => u D (σ.set n (some x)) H1) C8.E0) hi hj hm hp hb pr hl lk gp gb l40 gl k
theorem mk_book3 {K : PySem.W.Frag} {σ : L2.St} {H : Hp} {i j m : Nat} {pl bl ll : Addr} {P : List Str} {B : List (Str × Str)} {l : List Leak} {rs xs : List V} (hi : σ[i]? = some (some (.ref pl))) (hj : σ[j]? = some (some (.ref bl))) (hm : σ[m]? = some (some (.ref ll)))
    (hp : H pl = some (.lst (txs P))) (hb : H bl = some (.lst rs)) (pr : Prs H rs B) (hl : H ll = some (.lst xs)) (lk : Lks H xs l) (gp : GoodP P) (gb : GoodB P B) (l40 : l.length ≤ 40) (gl : ∀ k, k ∈ l → GoodL P k) {t u : TS} {D : Ends} {sp : Sp}
    (k : ∀ (H' : Hp) (a : Addr), Same H H' → BookAt K H' a P B l → sp [.ref a] H' (fun x H1 => if decide (x = V.non) = true then t D σ H1 else u D σ H1) C8.E0) : tIfS (tB (tIsN (tCall sp [] C8.E0 (tCons (tMake (CB K) (spBookInit K) [] C8.E0 (tCons (tMake (CP K) (spPartyInit (CP K)) [] C8.E0 (tCons (tCB (rTupOf K) (tCons (tVar i) tNil)) (tCons (tCB (rListOf K) (tCons (tVar j) tNil)) tNil))) (tCons (tCB (rListOf K) (tCons (tVar m) tNil)) tNil))) tNil)))) t u D σ H :=
  mk_book (Qc := fun x H1 => sp [x] H1 (fun x H1 => ∃ c, V.bl (decide (x = V.non)) = V.bl c ∧ if c = true then t D σ H1 else u D σ H1) C8.E0) hi hj hm hp hb pr hl lk gp gb l40 gl fun H' a s b => by
    have q := k H' a s b
    have e : (fun (x : V) (H1 : Hp) => ∃ c, V.bl (decide (x = V.non)) = V.bl c ∧ if c = true then t D σ H1 else u D σ H1) = (fun x H1 => if decide (x = V.non) = true then t D σ H1 else u D σ H1) := by
      funext x H1
      exact propext ⟨fun ⟨c, h1, h2⟩ => V.bl.inj h1 ▸ h2, fun h => ⟨_, rfl, h⟩⟩
    rw [e]
    exact q
def thsOf (tk : List (Str × Str)) : List Leak := tk.map fun p => Leak.ths p.1 p.2
theorem rows_ths (P : List Str) (B : List (Str × Str)) (l : List Leak) (a b : Str) : rowsOf P B (l ++ [.ths a b]) = fixF (rowsOf P B l) a b := by
  funext g
  unfold fixF rowsOf
  by_cases c : g = a
  · rw [if_pos c, List.filter_filter]
    refine List.filter_congr fun t _ => ?_
    unfold allB
    rw [List.all_append, Bool.and_comm]
    congr 1
    show (letB (.ths a b) g t && true) = _
    rw [Bool.and_true]
    show decide (decide (g = a) = decide (t = b)) = decide (t = b)
    rw [decide_eq_true c]
    by_cases d : t = b <;> simp [d]
  · rw [if_neg c, List.filter_filter]
    refine List.filter_congr fun t _ => ?_
    unfold allB
    rw [List.all_append, Bool.and_comm]
    congr 1
    show (letB (.ths a b) g t && true) = _
    rw [Bool.and_true]
    show decide (decide (g = a) = decide (t = b)) = decide (t ≠ b)
    rw [decide_eq_false c]
    by_cases d : t = b <;> simp [d]
theorem rows_tak (P : List Str) (B : List (Str × Str)) : ∀ (tk : List (Str × Str)) (l : List Leak), rowsOf P B (l ++ thsOf tk) = takF (rowsOf P B l) tk
  | [], l => by show rowsOf P B (l ++ []) = _; rw [List.append_nil]; rfl
  | p :: r, l => by
    have e : l ++ thsOf (p :: r) = (l ++ [.ths p.1 p.2]) ++ thsOf r := by unfold thsOf; rw [List.map_cons, List.append_assoc]; rfl
    rw [e, rows_tak P B r, rows_ths]
    rfl
theorem taks_fst {P : List Str} {R : Str → List Str} {O : List Str} : ∀ k : Nat, k ≤ O.length → (taks P R O k).map Prod.fst = O.take k
  | 0, _ => rfl
  | k + 1, h => by
    obtain ⟨g, hg⟩ := take_at (P := O) (i := k) (by omega)
    rw [taks_succ hg, List.map_append, taks_fst k (by omega), take_next hg]
    rfl
theorem tak_rowsK {P : List Str} {R : Str → List Str} {O : List Str} (k : Nat) : takF R (taks P R O k) = rowsK P R O k := taks_fold k
theorem rows_other {P O : List Str} (h : O.Perm P) (B : List (Str × Str)) (l : List Leak) : rowsOf O B l = rowsOf P B l := by
  funext g
  unfold rowsOf
  rw [mayl_other h]
theorem PM.perm {P O : List Str} {R : Str → List Str} (h : O.Perm P) (hM : ∃ M, PM P R M) : ∃ M, PM O R M := let ⟨M, m⟩ := hM; ⟨M, m.other fun x => (h.mem_iff).symm⟩
theorem GoodP.perm {P O : List Str} (h : O.Perm P) (g : GoodP P) : GoodP O := ⟨by rw [h.length_eq]; exact g.1, by rw [h.length_eq]; exact g.2.1, h.nodup_iff.mpr g.2.2.1, fun x hx => g.2.2.2 x (h.mem_iff.mp hx)⟩
theorem GoodB.perm {P O : List Str} (h : O.Perm P) {B : List (Str × Str)} (g : GoodB P B) : GoodB O B := ⟨g.1, fun p hp => ⟨h.mem_iff.mpr (g.2 p hp).1, h.mem_iff.mpr (g.2 p hp).2.1, (g.2 p hp).2.2⟩⟩
theorem Diff.perm {P O L : List Str} (h : O.Perm P) (d : Diff P L) : Diff O L := ⟨fun v hv => h.mem_iff.mpr (d.1 v hv), d.2⟩
theorem Lot.perm {P O L : List Str} (h : O.Perm P) (d : Lot P L) : Lot O L := ⟨d.1, d.2.1, d.2.2.perm h⟩
theorem GoodL.perm {P O : List Str} (h : O.Perm P) : ∀ {k : Leak}, GoodL P k → GoodL O k
  | .nt _ _, g => ⟨h.mem_iff.mpr g.1, h.mem_iff.mpr g.2.1, g.2.2⟩
  | .ths _ _, g => ⟨h.mem_iff.mpr g.1, h.mem_iff.mpr g.2.1, g.2.2⟩
  | .one _ _, g => ⟨h.mem_iff.mpr g.1, g.2.perm h⟩
  | .frm _ _, g => ⟨h.mem_iff.mpr g.1, g.2.perm h⟩
  | .lot _ _, g => ⟨g.1.perm h, g.2.perm h⟩
  | .nvr _ _, g => ⟨g.1.perm h, g.2.perm h⟩
theorem least_at {P O : List Str} {R : Str → List Str} (w : WF P R) (hM : ∃ M, PM P R M) (h : O.Perm P) {k : Nat} {g : Str} (e : O[k]? = some g) : least O R O g = pick P (rowsK P R O k) g := by
  unfold least
  rw [rowsK_other (P := O) (P' := P) (fun x => h.mem_iff)]
  obtain ⟨r, q⟩ := rowsK_last (P := P) (R := R) (ord := O) w hM (fun x hx => h.mem_iff.mp hx) e (List.getElem?_eq_some_iff.mp e).1
  rw [q]
  rfl
theorem taks_good {P O : List Str} {B : List (Str × Str)} {l : List Leak} (nd : P.Nodup) (hM : ∃ M, PM P (rowsOf P B l) M) (h : O.Perm P) {k : Nat} (hk : k ≤ O.length) : ∀ z, z ∈ thsOf (taks P (rowsOf P B l) O k) → GoodL P z := fun z hz => by
  unfold thsOf at hz
  obtain ⟨p, hp, rfl⟩ := List.mem_map.mp hz
  obtain ⟨i, _, e1, e2⟩ := taks_mem k hk hp
  have wf := rowsOf_wf nd B l
  obtain ⟨_, M, hM'⟩ := rowsK_ok wf hM (fun x hx => h.mem_iff.mp hx) i
  have gP := h.mem_iff.mp (mem_at e1)
  have q := (pick_poss hM' gP).1
  rw [← e2] at q
  have q2 := rowsK_sub i q
  unfold rowsOf at q2
  have q3 := mem_mayl.mp (List.mem_filter.mp q2).1
  exact ⟨gP, q3.1, q3.2.1⟩
end G
set_option Elab.async false
set_option linter.all false
set_option maxRecDepth 100000
set_option maxHeartbeats 4000000
namespace G
open PySem PySem.Spec PyProof.Rows L2 GM
def spOrdered : Sp := fun vs H Q _ => ∃ (pl bl ll ol : Addr) (P O : List Str) (B : List (Str × Str)) (l : List Leak), vs = [.ref pl, .ref bl, .ref ll, .ref ol] ∧ Wld H pl bl ll P B l ∧ H ol = some (.lst (txs O)) ∧ O.Perm P ∧ (∃ M, PM P (rowsOf P B l) M) ∧
  ∀ H', Same H H' → Q (.bl true) H'
theorem LeakAt.tups {H H' : Hp} {q : Addr} (f : ∀ (b : Addr) (xs : List V), H b = some (.tup xs) → H' b = some (.tup xs)) : ∀ {k : Leak}, LeakAt H q k → LeakAt H' q k := by
  have ts : ∀ {v : V} {L : List Str}, TupS H v L → TupS H' v L := fun h => let ⟨l, a, c⟩ := h; ⟨l, a, f _ _ c⟩
  intro k h
  cases k with
  | nt a b => exact f _ _ h
  | ths a b => exact f _ _ h
  | one a L => obtain ⟨v, a1, t⟩ := h; exact ⟨v, f _ _ a1, ts t⟩
  | frm a L => obtain ⟨v, a1, t⟩ := h; exact ⟨v, f _ _ a1, ts t⟩
  | lot L M => obtain ⟨u, v, a1, t, r⟩ := h; exact ⟨u, v, f _ _ a1, ts t, ts r⟩
  | nvr L M => obtain ⟨u, v, a1, t, r⟩ := h; exact ⟨u, v, f _ _ a1, ts t, ts r⟩
theorem Lks.tups {H H' : Hp} {xs : List V} {l : List Leak} (f : ∀ (b : Addr) (xs : List V), H b = some (.tup xs) → H' b = some (.tup xs)) (h : Lks H xs l) : Lks H' xs l := ⟨h.1, fun i k q => let ⟨a, b, c⟩ := h.2 i k q; ⟨a, b, c.tups f⟩⟩
theorem Prs.tups {H H' : Hp} {xs : List V} {l : List (Str × Str)} (f : ∀ (b : Addr) (xs : List V), H b = some (.tup xs) → H' b = some (.tup xs)) (h : Prs H xs l) : Prs H' xs l := ⟨h.1, fun i k q => let ⟨a, b, c⟩ := h.2 i k q; ⟨a, b, f _ _ c⟩⟩
section
variable {P : Program} {w : World} {K : PySem.W.Frag} {mg : Str → Option Value} {base : Heap}
theorem callO_ev (T : Tx K mg) : StX.CallO K (CE K) (He.ma K (CE K) "__call__") := by
  obtain ⟨fd, F, b⟩ := T.f_Evening_Call
  obtain ⟨oc, od, kV, doc, pm, an, cdv, ct, osl, e, lk, hcd⟩ := F.ex
  refine ⟨T.m_Evening_Call.at_, T.m_Evening_Call.fn, ?_⟩
  unfold PySem.W.fnIn
  rw [lk]
theorem c_ordered (T : Tx K mg) : C8.Cal P w K mg base 31 "_law_ordered" spOrdered [] := by
  have cP := c_partyInit (P := P) (w := w) (base := base) T
  have cB := c_bookInit (P := P) (w := w) (base := base) T
  have cF := c_first (P := P) (w := w) (base := base) T
  have cT := c_table (P := P) (w := w) (base := base) T
  have cE := c_evInit (P := P) (w := w) (base := base) T
  have cM := c_may_take (P := P) (w := w) (base := base) T
  have cU := c_undo (P := P) (w := w) (base := base) T
  have cQ1 := c_eq1 (P := P) (w := w) (base := base) T
  have cQ2 := c_eq2 (P := P) (w := w) (base := base) T
  obtain ⟨fdL, FL, bL⟩ := c_evLen (P := P) (w := w) (base := base) T
  obtain ⟨fdC, FC, bC⟩ := c_evCall (P := P) (w := w) (base := base) T
  obtain ⟨fd, F, b⟩ := T.f_l_ordered
  refine ⟨_, fd, _, [], F.ok (k := 30) sc_l_ordered (fun vs H Q E h => ?_) (fun cdv A outer s H vs Q E hr h => ?_), T.g__law_ordered, F.kp, b, .nil⟩
  · obtain ⟨_, _, _, _, _, _, _, _, rfl, _⟩ := h
    rfl
  · obtain ⟨pl, bl, ll, ol, P, O, B, l, rfl, wl, hol, pm, hM, k⟩ := h
    have hu := hu_of hr
    refine ⟨_, pss_cons (ps_set (i := 4) sc_l_ordered.nd rfl (.inl rfl) (C8.pe_mk cB hr (by decide) rfl (pa_cons (C8.pe_mk cP hr (by decide) rfl (pa_cons (pe_callTy call_tuple_of (by rfl) T.b_tuple (by rfl) (pa_cons (pv 0) pa_nil)) (pa_cons (pe_callTy call_list_of (by rfl) T.b_list (by rfl) (pa_cons (pv 1) pa_nil)) pa_nil))) (pa_cons (pe_callTy call_list_of (by rfl) T.b_list (by rfl) (pa_cons (pv 2) pa_nil)) pa_nil))))
      (pss_cons (ps_set (i := 5) sc_l_ordered.nd rfl (.inl rfl) (C8.pe_c cF hr (by decide) rfl (pa_cons (C8.pe_mk cB hr (by decide) rfl (pa_cons (C8.pe_mk cP hr (by decide) rfl (pa_cons (pe_callTy call_tuple_of (by rfl) T.b_tuple (by rfl) (pa_cons (pv 3) pa_nil)) (pa_cons (pe_callTy call_list_of (by rfl) T.b_list (by rfl) (pa_cons (pv 1) pa_nil)) pa_nil))) (pa_cons (pe_callTy call_list_of (by rfl) T.b_list (by rfl) (pa_cons (pv 2) pa_nil)) pa_nil))) pa_nil)))
      (pss_cons (ps_set (i := 6) sc_l_ordered.nd rfl (.inl rfl) (C8.pe_mk cE hr (by decide) rfl (pa_cons (pv 4) pa_nil)))
      (pss_cons (ps_set (i := 7) sc_l_ordered.nd rfl (.inl rfl) (C8.pe_c cT hr (by decide) rfl (pa_cons (pv 4) pa_nil)))
      (pss_cons (ps_set (i := 8) sc_l_ordered.nd rfl (.inl rfl) (pe_callTy call_list_of (by rfl) T.b_list (by rfl) (pa_cons (pv 2) pa_nil)))
      (pss_cons (ps_for PassesOwn.never rfl (pi_range1 (by rfl) T.b_range (pa_cons (pe_callB call_len_seq (by rfl) T.b_len (by rfl) (pa_cons (pv 3) pa_nil)) pa_nil)) (pg_name (i := 9) sc_l_ordered.nd rfl (.inl rfl))
        (C8.pss_cut (ps_if (pt_cmpR op_eq (pe_op op_mod (pe_callTy call_int1 (by rfl) T.b_int (by rfl) (pa_cons (pv 9) pa_nil)) pe_int) pe_int rfl)
          (pss_cons (ps_set (i := 10) sc_l_ordered.nd rfl (.inl rfl) (C8.pe_c cT hr (by decide) rfl (pa_cons (C8.pe_mk cB hr (by decide) rfl (pa_cons (C8.pe_mk cP hr (by decide) rfl (pa_cons (pe_callTy call_tuple_of (by rfl) T.b_tuple (by rfl) (pa_cons (pv 0) pa_nil)) (pa_cons (pe_callTy call_list_of (by rfl) T.b_list (by rfl) (pa_cons (pv 1) pa_nil)) pa_nil))) (pa_cons (pe_callTy call_list_of (by rfl) T.b_list (by rfl) (pa_cons (pv 8) pa_nil)) pa_nil))) pa_nil)))
          (pss_one (ps_for PassesOwn.never rfl (pi_list (pe_slice sl_list (pv 3) (po_some (pv 9)) po_none)) (pg_name (i := 11) sc_l_ordered.nd rfl (.inl rfl))
            (pss_one (ps_if (pt_not (pt_val (C8.pe_c cQ2 hr (by decide) rfl (pa_cons (C8.pe_mt cM hr (by decide) (pv 6) (pa_cons (pv 11) pa_nil)) (pa_cons (pe_dget hu (pv 10) (pv 11) (fun _ _ => rfl)) pa_nil))))) (pss_one ps_never) pss_nil))))) pss_nil)
        (pss_cons (ps_set (i := 12) sc_l_ordered.nd rfl (.inl rfl) (StX.pe_callO (pv 6) (callO_ev T) (FC.raw bC .nil) (hr.mono (by decide)) pass0 (pa_cons (pe_ix ix_list (pv 3) (pv 9) (fun _ _ => rfl)) pa_nil)))
        (pss_cons (ps_if (PW.pt (pw_or (pt_not (pt_val (pe_callB RZ.call_isTy (by rfl) T.b_isinstance (by rfl) (pa_cons (pv 12) (pa_cons (pe_bltn (by rfl) T.b_str (by rfl) (rTy _)) pa_nil))))) (pw_or1 (pt_cmpR op_ne (pv 12) (pe_dget hu (pv 5) (pe_ix ix_list (pv 3) (pv 9) (fun _ _ => rfl)) (fun _ _ => rfl)) rfl)))) (pss_one ps_never) pss_nil)
        (pss_one (ps_expr (pe_bm PySem.F.plainAttrs_list PySem.F.slot_list_append PySem.F.type_list_append mt_append (pv 8) (pa_cons (pe_tup (pa_cons pe_str (pa_cons (pe_ix ix_list (pv 3) (pv 9) (fun _ _ => rfl)) (pa_cons (pv 12) pa_nil)))) pa_nil))))))))
      (pss_cons (ps_for PassesOwn.never rfl (pi_range1 (by rfl) T.b_range (pa_cons (pe_callB call_len_seq (by rfl) T.b_len (by rfl) (pa_cons (pv 3) pa_nil)) pa_nil)) (pg_name (i := 9) sc_l_ordered.nd rfl (.inl rfl))
        (pss_cons (ps_set (i := 11) sc_l_ordered.nd rfl (.inl rfl) (pe_ix ix_list (pv 3) (pe_op op_sub (pe_op op_sub (pe_callB call_len_seq (by rfl) T.b_len (by rfl) (pa_cons (pv 3) pa_nil)) pe_int) (pv 9)) (fun _ _ => rfl)))
        (pss_one (ps_if (pt_not (pt_val (C8.pe_c cQ2 hr (by decide) rfl (pa_cons (C8.pe_mt0 cU hr (by decide) (pv 6)) (pa_cons (pe_tup (pa_cons (pv 11) (pa_cons (pe_dget hu (pv 5) (pv 11) (fun _ _ => rfl)) pa_nil))) pa_nil))))) (pss_one ps_never) pss_nil))))
      (pss_cons (ps_for PassesOwn.never rfl (pi_list (pv 0)) (pg_name (i := 11) sc_l_ordered.nd rfl (.inl rfl))
        (pss_one (ps_if (pt_not (pt_val (C8.pe_c cQ2 hr (by decide) rfl (pa_cons (C8.pe_mt cM hr (by decide) (pv 6) (pa_cons (pv 11) pa_nil)) (pa_cons (pe_dget hu (pv 7) (pv 11) (fun _ _ => rfl)) pa_nil))))) (pss_one ps_never) pss_nil)))
      (pss_one (ps_ret (C8.pe_c cQ1 hr (by decide) rfl (pa_cons (pe_callB (call_ownLen T.m_Evening_Len FL (hr.mono (by decide)) bL pass0) (by rfl) T.b_len (by rfl) (pa_cons (pv 6) pa_nil)) (pa_cons pe_int pa_nil)))))))))))), ?_⟩
    obtain ⟨rs, xs, hpl, hbl, prs, hll, lks, gp, l12, gb, l20, gl⟩ := wl
    have low := small1000 (show 100 ≤ 1000 by decide)
    have nd := gp.2.2.1
    have ndO : O.Nodup := pm.nodup_iff.mpr nd
    have lO := pm.length_eq
    have inP : ∀ {x : Str}, x ∈ O → x ∈ P := fun h => pm.mem_iff.mp h
    refine mk_book1 (K := K) (i := 0) (j := 1) (m := 2) (σ := [some (.ref pl), some (.ref bl), some (.ref ll), some (.ref ol), none, none, none, none, none, none, none, none, none]) rfl rfl rfl hpl hbl prs hll lks gp gb (by omega) gl fun H1 bk s1 hbk => ?_
    refine mk_book2 (K := K) (i := 3) (j := 1) (m := 2) (σ := [some (.ref pl), some (.ref bl), some (.ref ll), some (.ref ol), some (.ref bk), none, none, none, none, none, none, none, none]) rfl rfl rfl (s1 _ _ hol) (s1 _ _ hbl) (prs.same s1) (s1 _ _ hll) (lks.same s1) (gp.perm pm) (gb.perm pm) (by omega) (fun z hz => (gl z hz).perm pm) fun H2 bo s2 hbo => ?_
    refine ⟨bo, O, B, l, rfl, hbo, gp.perm pm, by rw [rows_other pm]; exact PM.perm pm hM, fun H3 ld s3 hld => ?_⟩
    rw [rows_other pm] at hld
    have wf := rowsOf_wf nd B l
    have sh := rowsOf_short gp.2.1 B l
    have S3 := (s1.trans s2).trans s3
    have hbk3 := hbk.same (s2.trans s3)
    refine ⟨_, rfl, fun e dx ne ndx nee => ?_⟩
    have s4a := mk_at (C := CE K) ne ndx
    refine ⟨e, dx, bk, P, B, l, rfl, upd_same, hbk3.same s4a, gp, hM, fun H4 k4 ev4 => ⟨rfl, ?_⟩⟩
    have s4 := mk_kept ne ndx nee k4
    refine ⟨_, rfl, bk, P, B, l, rfl, hbk3.same s4, gp, fun G bt s5 hbt => ?_⟩
    have rowsT := fun (tk : List (Str × Str)) => rows_tak P B tk l
    have tgood := fun (k : Nat) (hk : k ≤ O.length) => taks_good (B := B) (l := l) nd hM pm hk
    have sG := (S3.trans s4).trans s5
    have evG := ev4.same s5
    have gpl := sG _ _ hpl
    have gbl := sG _ _ hbl
    have gprs := prs.same sG
    have gll := sG _ _ hll
    have glks := lks.same sG
    have gol := sG _ _ hol
    have gld := (s4.trans s5) _ _ hld
    have He0 : H e = none := S3.free ne
    have fin : ∀ H', Kept [e] G H' → Same H H' := fun H' kG b o eb => kG b o (by simpa using ne_of_none eb He0) (sG b o eb)
    clear hbk hbo hbk3 s4a k4 ev4
    refine ⟨_, rfl, ll, xs, rfl, .inl (SqL.of gll), fun hf nhf => ?_⟩
    have s6 := same_new (o := .lst xs) nhf
    obtain ⟨dxe, rwe, ape, tle, fse, tse, ge1, _⟩ := id evG
    have nE : ∀ {b : Addr} {o : HO}, G b = some o → (∀ fs, o ≠ .ins (CE K) dxe fs) → b ≠ e := fun {b o} h n z => by
      rw [z, ge1] at h
      exact n _ (Option.some.inj h).symm
    have gk : ∀ {H' : Hp} {b : Addr} {o : HO}, Kept [e] G H' → G b = some o → (∀ fs, o ≠ .ins (CE K) dxe fs) → H' b = some o := fun {H' b o} kk h n => kk b o (by simpa using nE h n) h
    have gtup : ∀ {H' : Hp}, Kept [e] G H' → ∀ (b : Addr) (ys : List V), G b = some (.tup ys) → H' b = some (.tup ys) := fun kk b ys h => gk kk h (fun _ w => by cases w)
    obtain ⟨adb, hbt1, hbt2⟩ := hbt
    refine ⟨_, rfl, ol, _, rfl, .inl (SqL.of (s6 _ _ gol)), (O.length : Nat), by rw [txs_len], by omega, by omega, ?_⟩
    rw [Int.toNat_natCast]
    generalize hR : rowsOf P B l = R at *
    have subP : ∀ x, x ∈ O → x ∈ P := fun x h => pm.mem_iff.mp h
    refine for_it walk_range (fun i σ Hc => ∃ (hx : List V) (v9 v10 v11 v12 : Option V), σ = [some (.ref pl), some (.ref bl), some (.ref ll), some (.ref ol), some (.ref bk), some (.ref ld), some (.ref e), some (.ref bt), some (.ref hf), v9, v10, v11, v12] ∧ Kept [e] G Hc ∧ Hc hf = some (.lst hx) ∧ Lks Hc hx (l ++ thsOf (taks P R O i)) ∧ EvAt K Hc e P R (taks P R O i) ∧ Apart K Hc e hf)
      ⟨xs, none, none, none, none, rfl, s6.kept [e], upd_same, by show Lks _ xs (l ++ []); rw [List.append_nil]; exact glks.same s6, evG.same s6, (evG.new nhf).same evG s6⟩ (fun _ _ _ _ _ => trivial) ?_ ?_
    · rintro i x σ Hc Hd hi ⟨hx, v9, v10, v11, v12, rfl, kG, ehf, lkh, ev, apz⟩ ⟨rfl, rfl⟩
      have z0 : (0 + (i : Int)) = (i : Int) := by omega
      obtain ⟨g, hg⟩ := take_at hi
      have gP := inP (mem_at hg)
      have lT : (taks P R O i).length = i := taks_len i (by omega)
      have fT : (taks P R O i).map Prod.fst = O.take i := taks_fst i (by omega)
      refine ⟨fun σ' H' => ∃ v10 v11 : Option V, σ' = [some (.ref pl), some (.ref bl), some (.ref ll), some (.ref ol), some (.ref bk), some (.ref ld), some (.ref e), some (.ref bt), some (.ref hf), some (.int (0 + (i : Int))), v10, v11, v12] ∧ Same Hd H', ?_, ?_⟩
      · by_cases c : (0 + (i : Int)) % 3 = 1
        · refine ⟨_, rfl, .inl ⟨_, rfl, _, _, rfl, rfl, (by decide : (0 : Int) < 3), rfl, true, congrArg V.bl (decide_eq_true (congrArg V.int c)), iteT ?_⟩⟩
          refine mk_book2 (K := K) (i := 0) (j := 1) (m := 8) (σ := [some (.ref pl), some (.ref bl), some (.ref ll), some (.ref ol), some (.ref bk), some (.ref ld), some (.ref e), some (.ref bt), some (.ref hf), some (.int (0 + (i : Int))), v10, v11, v12]) rfl rfl rfl (gk kG gpl (fun _ w => by cases w)) (gk kG gbl (fun _ w => by cases w)) (gprs.tups (gtup kG)) ehf lkh gp gb ?_ ?_ fun H7 b7 s7 hb7 => ?_
          · rw [List.length_append]
            unfold thsOf
            rw [List.length_map, lT]
            omega
          · intro z hz
            rcases List.mem_append.mp hz with q | q
            · exact gl z q
            · exact tgood i (by omega) z q
          refine ⟨b7, P, B, _, rfl, hb7, gp, fun H8 td s8 htd => ?_⟩
          rw [rowsT] at htd
          obtain ⟨adt, htd1, htd2⟩ := htd
          have S8 := s7.trans s8
          refine ⟨_, rfl, _, rfl, _, rfl, ol, _, rfl, SqL.of (S8 _ _ (gk kG gol (fun _ w => by cases w))), fun sl nsl => ?_⟩
          have eC : cutV (txs O) (some (0 + (i : Int))) none = txs (O.drop i) := by rw [z0, cut_drop (by rw [txs_len]; omega), txs_drop]
          rw [eC]
          have s9 := same_new (o := .lst (txs (O.drop i))) nsl
          have e9 : upd H8 sl (.lst (txs (O.drop i))) sl = some (.lst (txs (O.drop i))) := upd_same
          generalize upd H8 sl (.lst (txs (O.drop i))) = H9 at s9 e9 ⊢
          have S9 := S8.trans s9
          refine ⟨sl, rfl, ⟨_, SqL.of e9⟩, ?_⟩
          refine for_it (walk_list (xs := txs (O.drop i))) (fun j σ H' => ∃ v11 : Option V, σ = [some (.ref pl), some (.ref bl), some (.ref ll), some (.ref ol), some (.ref bk), some (.ref ld), some (.ref e), some (.ref bt), some (.ref hf), some (.int (0 + (i : Int))), some (.ref td), v11, v12] ∧ Same H9 H') ⟨v11, rfl, fun _ _ e => e⟩ (fun j σ H' _ p => by obtain ⟨_, _, s'⟩ := p; exact SqL.of (s' _ _ e9)) ?_ ?_
          · rintro j y σ H' H'' hj ⟨v11', rfl, s'⟩ ⟨rfl, hy⟩
            obtain ⟨a, ha, rfl⟩ := txs_get hy
            rw [List.getElem?_drop] at ha
            have aP := inP (mem_at ha)
            have na : a ∉ (taks P R O i).map Prod.fst := by
              rw [fT]
              intro z
              obtain ⟨m, hm, em⟩ := List.mem_iff_getElem.mp z
              rw [List.length_take] at hm
              have e2 : O[m]? = some a := by
                rw [List.getElem_take] at em
                rw [← em]
                exact List.getElem?_eq_getElem _
              have := at_uniq ndO ha e2
              omega
            have evH := ev.same (S9.trans s')
            obtain ⟨dx2, rw2, ap2, tl2, fs2, ts2, i1, i2, i3, i4, i5, i6, i7, i8, i9, i10, i11, i12⟩ := id evH
            refine ⟨_, rfl, e, dx2, fs2, rfl, i1, i10, _, rfl, e, P, R, _, a, rfl, evH, aP, na, wf, sh, gp.2.1, fun Hq p sq hp => ?_⟩
            have t9 := (s9.trans s').trans sq
            exact ⟨_, rfl, _, rfl, td, _, rfl, get_dm (.inl (t9 _ _ htd1)) aP, p, adt a, _, rfl, .inl ⟨hp, t9 _ _ (htd2 a aP)⟩, (takF_short sh _).tbl a aP, fun Hr sr => ⟨true, rfl, iteF ⟨_, rfl, (s'.trans sq).trans sr⟩⟩⟩
          · rintro σ H' ⟨v11', rfl, s'⟩
            exact ⟨_, _, rfl, S9.trans s'⟩
        · exact ⟨_, rfl, .inl ⟨_, rfl, _, _, rfl, rfl, (by decide : (0 : Int) < 3), rfl, false, congrArg V.bl (decide_eq_false (fun z => c (V.int.inj z))), iteF ⟨_, _, rfl, fun _ _ e => e⟩⟩⟩
      · rintro σ' H7 ⟨v10', v11', rfl, s7⟩
        have kG7 := kG.trans (s7.kept [e])
        have ev7 := ev.same s7
        have ap7 := apz.same ev s7
        have lk7 := lkh.same s7
        have ehf7 := s7 _ _ ehf
        obtain ⟨wk, M', hM'⟩ := rowsK_ok wf hM subP i
        obtain ⟨r, er⟩ := pick_cons hM' gP
        rw [← tak_rowsK] at er
        obtain ⟨dx2, rw2, ap2, tl2, fs2, ts2, i1, i2⟩ := id ev7
        refine ⟨_, rfl, e, rfl, _, rfl, _, rfl, ol, _, _, .str g, rfl, rfl, SqL.of (gk kG7 gol (fun _ w => by cases w)), atI_some z0 (txs_at hg), .inr ⟨_, _, i1⟩, e, P, R, _, g, _, r, rfl, ev7, gP, by rw [fT]; exact not_mem_take ndO hg, wf, sh, gp.2.1, by omega, er, fun H8 k8 ev8 ap8 => ?_⟩
        have kG8 := kG7.trans k8
        have el : least O R O g = pick P (rowsK P R O i) g := least_at wf hM pm hg
        rw [tak_rowsK] at ev8
        refine ⟨_, rfl, _, _, rfl, .str _, true, rfl, iteF ?_⟩
        refine ⟨_, rfl, _, rfl, _, rfl, _, rfl, ol, _, _, .str g, rfl, rfl, SqL.of (gk kG8 gol (fun _ w => by cases w)), atI_some z0 (txs_at hg), ld, _, rfl, get_dm (.inl (gk kG8 gld (fun _ w => by cases w))) (mem_at hg), rfl, false, ?_, iteF ?_⟩
        · rw [tak_rowsK]
          show V.bl (!decide (V.str (pick P (rowsK P R O i) g) = V.str (least O R O g))) = V.bl false
          rw [el, decide_eq_true rfl]
          rfl
        have ne7 : ∀ {b : Addr} {o : HO}, H7 b = some o → (∀ fs, o ≠ .ins (CE K) dx2 fs) → b ≠ e := fun {b o} h n z => by
          rw [z, i1] at h
          exact n _ (Option.some.inj h).symm
        have ehf8 : H8 hf = some (.lst hx) := k8 _ _ (by simpa using ne7 ehf7 (fun _ w => by cases w)) ehf7
        have lk8 : Lks H8 hx (l ++ thsOf (taks P R O i)) := lk7.tups fun b ys h => k8 _ _ (by simpa using ne7 h (fun _ w => by cases w)) h
        refine ⟨_, rfl, .inl ⟨rfl, _, SqL.of ehf8⟩, _, rfl, _, rfl, ol, _, _, .str g, rfl, rfl, SqL.of (gk kG8 gol (fun _ w => by cases w)), atI_some z0 (txs_at hg), _, rfl, (by decide : 3 ≤ sizeLine), fun q nq => ?_⟩
        rw [tak_rowsK]
        have s9 := same_new (o := .tup [.str "this", .str g, .str (pick P (rowsK P R O i) g)]) nq
        have f9 : upd H8 q (.tup [.str "this", .str g, .str (pick P (rowsK P R O i) g)]) q = some (.tup [.str "this", .str g, .str (pick P (rowsK P R O i) g)]) := upd_same
        generalize upd H8 q (.tup [.str "this", .str g, .str (pick P (rowsK P R O i) g)]) = H9 at s9 f9 ⊢
        have ll9 : hx.length < sizeLine := by
          rw [lk8.1, List.length_append]
          unfold thsOf
          rw [List.length_map, lT]
          omega
        refine ⟨hf, _, _, rfl, rfl, s9 _ _ ehf8, ll9, ?_⟩
        have eT : taks P R O (i + 1) = taks P R O i ++ [(g, pick P (rowsK P R O i) g)] := taks_succ hg
        rw [← eT] at ev8
        obtain ⟨ev9, ap9⟩ := EvAt.put (ys := hx ++ [.ref q]) (ev8.same s9) ((ap8 hf _ ehf7 ap7).same ev8 s9) (s9 _ _ ehf8)
        refine ⟨hx ++ [.ref q], _, _, _, _, rfl, fun b o nb hb => ?_, upd_same, ?_, ev9, ap9⟩
        · rw [upd_ne (ne_of_none hb nhf)]
          exact s9 _ _ (kG8 b o nb hb)
        · rw [eT]
          have e2 : l ++ thsOf (taks P R O i ++ [(g, pick P (rowsK P R O i) g)]) = (l ++ thsOf (taks P R O i)) ++ [.ths g (pick P (rowsK P R O i) g)] := by
            unfold thsOf
            rw [List.map_append, List.append_assoc]
            rfl
          rw [e2]
          exact Lks.put (lks_pw.mpr ((lks_pw.mp (lk8.same s9)).snoc ⟨q, rfl, f9⟩)) (s9 _ _ ehf8)
    · rintro σ Hc ⟨hx, v9, v10, v11, v12, rfl, kG, ehf, lkh, ev, apz⟩
      refine ⟨_, rfl, ol, _, rfl, .inl (SqL.of (gk kG gol (fun _ w => by cases w))), (O.length : Nat), by rw [txs_len], by omega, by omega, ?_⟩
      rw [Int.toNat_natCast]
      refine for_it walk_range (fun i σ Hd => ∃ v9 v11 : Option V, σ = [some (.ref pl), some (.ref bl), some (.ref ll), some (.ref ol), some (.ref bk), some (.ref ld), some (.ref e), some (.ref bt), some (.ref hf), v9, v10, v11, v12] ∧ Kept [e] G Hd ∧ EvAt K Hd e P R (taks P R O (O.length - i))) ⟨v9, v11, rfl, kG, ev⟩ (fun _ _ _ _ _ => trivial) ?_ ?_
      · rintro i x σ Hd He hi ⟨v9', v11', rfl, kd, evd⟩ ⟨rfl, rfl⟩
        obtain ⟨a, ha⟩ := take_at (P := O) (i := O.length - 1 - i) (by omega)
        have aO := mem_at ha
        have hol' := gk kd gol (fun _ w => by cases w)
        have zi : (((txs O).length : Nat) : Int) - 1 - (0 + (i : Int)) = ((O.length - 1 - i : Nat) : Int) := by rw [txs_len]; omega
        refine ⟨_, rfl, _, rfl, ol, _, rfl, .inl (SqL.of hol'), _, _, rfl, rfl, _, rfl, _, _, rfl, rfl, ol, _, _, .str a, rfl, rfl, SqL.of hol', atI_some zi (txs_at ha), ?_⟩
        have eN : O.length - i = (O.length - 1 - i) + 1 := by omega
        rw [eN, taks_succ ha] at evd
        obtain ⟨dx2, rw2, ap2, tl2, fs2, ts2, i1, i2, i3, i4, i5, i6, i7, i8, i9, i10, i11, i12⟩ := id evd
        refine ⟨_, rfl, e, dx2, fs2, rfl, i1, i11, e, P, R, _, _, rfl, evd, fun Hq q kq evq hq => ?_⟩
        have kdq := kd.trans kq
        refine ⟨_, rfl, _, rfl, _, rfl, ld, _, rfl, get_dm (.inl (gk kdq gld (fun _ w => by cases w))) aO, (by decide : 2 ≤ sizeLine), fun t nt => ?_⟩
        have s9 := same_new (o := .tup [.str a, hv (least O R O) a]) nt
        have f9 : upd Hq t (.tup [.str a, hv (least O R O) a]) t = some (.tup [.str a, hv (least O R O) a]) := upd_same
        have el : least O R O a = pick P (rowsK P R O (O.length - 1 - i)) a := least_at wf hM pm ha
        refine ⟨q, t, [a, pick P (rowsK P R O (O.length - 1 - i)) a], rfl, .inr ⟨s9 _ _ hq, ?_⟩, by show 2 ≤ 24; decide, fun Hr sr => ⟨true, rfl, iteF ⟨_, _, rfl, (kdq.trans (s9.kept [e])).trans (sr.kept [e]), ?_⟩⟩⟩
        · rw [f9]
          show some (HO.tup [.str a, .str (least O R O a)]) = _
          rw [el]
          rfl
        · rw [show O.length - (i + 1) = O.length - 1 - i by omega]
          exact (evq.same s9).same sr
      · rintro σ Hd ⟨v9', v11', rfl, kd, evd⟩
        rw [Nat.sub_self] at evd
        have evd : EvAt K Hd e P R [] := evd
        have hpl' := gk kd gpl (fun _ w => by cases w)
        refine ⟨_, rfl, pl, rfl, ⟨_, SqL.of hpl'⟩, ?_⟩
        refine for_it (walk_list (xs := txs P)) (fun j σ H' => ∃ v11 : Option V, σ = [some (.ref pl), some (.ref bl), some (.ref ll), some (.ref ol), some (.ref bk), some (.ref ld), some (.ref e), some (.ref bt), some (.ref hf), v9', v10, v11, v12] ∧ Same Hd H') ⟨v11', rfl, fun _ _ e => e⟩ (fun j σ H' _ p => by obtain ⟨_, _, s'⟩ := p; exact SqL.of (s' _ _ hpl')) ?_ ?_
        · rintro j y σ H' H'' hj ⟨w11, rfl, s'⟩ ⟨rfl, hy⟩
          obtain ⟨a, ha, rfl⟩ := txs_get hy
          have aP := mem_at ha
          have evH := evd.same s'
          obtain ⟨dx2, rw2, ap2, tl2, fs2, ts2, i1, i2, i3, i4, i5, i6, i7, i8, i9, i10, i11, i12⟩ := id evH
          refine ⟨_, rfl, e, dx2, fs2, rfl, i1, i10, _, rfl, e, P, R, _, a, rfl, evH, aP, by simp, wf, sh, gp.2.1, fun Hq p sq hp => ?_⟩
          have kq := kd.trans ((s'.trans sq).kept [e])
          exact ⟨_, rfl, _, rfl, bt, _, rfl, get_dm (.inl (gk kq hbt1 (fun _ w => by cases w))) aP, p, adb a, _, rfl, .inl ⟨hp, gk kq (hbt2 a aP) (fun _ w => by cases w)⟩, sh.tbl a aP, fun Hr sr => ⟨true, rfl, iteF ⟨_, rfl, (s'.trans sq).trans sr⟩⟩⟩
        · rintro σ H' ⟨w11, rfl, s'⟩
          have evH := evd.same s'
          obtain ⟨dx2, rw2, ap2, tl2, fs2, ts2, i1, i2⟩ := id evH
          exact ⟨_, rfl, e, dx2, fs2, rfl, i1, e, P, R, [], rfl, evH, 0, rfl, by decide, by decide, .inr ⟨0, rfl⟩, k H' (fin H' (kd.trans (s'.kept [e])))⟩
end
end G
set_option Elab.async false
set_option linter.all false
set_option maxRecDepth 100000
set_option maxHeartbeats 4000000
namespace G
open PySem PySem.Spec PyProof.Rows L2 GM
def spLaw (K : PySem.W.Frag) : Sp := fun vs H Q _ => ∃ (a : Addr) (ns : List Int), vs = [.ref a] ∧ SqL K H a (ns.map V.int) ∧ ns.length ≤ 63 ∧ (∀ z ∈ ns, Builtin.Int.intBits z ≤ 1048576) ∧ ∀ H', Q (.bl true) H'
theorem free_pm {P : List Str} (nd : P.Nodup) (h2 : 2 ≤ P.length) : ∃ M, PM P (rowsOf P [] []) M := by
  obtain ⟨tk, _, hid⟩ := shifted (P := P) (O := P) (List.Perm.refl P) nd (sh := 1) (Nat.le_refl _) (by omega)
  refine ⟨tk, fun g hg => ?_, hid.2.2⟩
  unfold rowsOf
  exact List.mem_filter.mpr ⟨mem_mayl.mpr ⟨(hid.2.1 g hg).1, fun z => (hid.2.1 g hg).2 z.symm, by simp⟩, rfl⟩
section
variable {P : Program} {w : World} {K : PySem.W.Frag} {mg : Str → Option Value} {base : Heap}
theorem c_law (T : Tx K mg) {fd : FuncData} (F : L2.Fun K "law" "law" s_law (He.ga K "law") fd) : FnOk P w K mg base C8.CX0 32 (He.ga K "law") fd ["_law_script"] (spLaw K) := by
  have cW := c_world (P := P) (w := w) (base := base) T
  have cP := c_partyInit (P := P) (w := w) (base := base) T
  have cB := c_bookInit (P := P) (w := w) (base := base) T
  have cG := c_drawing (P := P) (w := w) (base := base) T
  have cC := c_cell (P := P) (w := w) (base := base) T
  have cD := c_draws (P := P) (w := w) (base := base) T
  have cO := c_ordered (P := P) (w := w) (base := base) T
  refine F.ok (k := 31) sc_law (fun vs H Q E h => ?_) (fun cdv A outer s H vs Q E hr h => ?_)
  · obtain ⟨_, _, rfl, _⟩ := h
    rfl
  · obtain ⟨a, ns, rfl, hs, _, _, k⟩ := h
    have hu := hu_of hr
    refine ⟨_, pss_cons (ps_asg (C8.pe_c cW hr (by decide) rfl (pa_cons (pv 0) (pa_cons pe_int (pa_cons pe_int pa_nil)))) (pg_tup rfl (pgs_cons (pg_name (i := 1) sc_law.nd rfl (.inl rfl)) (pgs_cons (pg_name (i := 2) sc_law.nd rfl (.inl rfl)) (pgs_cons (pg_name (i := 3) sc_law.nd rfl (.inl rfl)) pgs_nil)))))
      (C8.pss_cut (ps_if (pt_cmp (pc_isN (C8.pe_c cG hr (by decide) rfl (pa_cons (C8.pe_mk cB hr (by decide) rfl (pa_cons (C8.pe_mk cP hr (by decide) rfl (pa_cons (pe_callTy call_tuple_of (by rfl) T.b_tuple (by rfl) (pa_cons (pv 1) pa_nil)) (pa_cons (pe_callTy call_list_of (by rfl) T.b_list (by rfl) (pa_cons (pv 2) pa_nil)) pa_nil))) (pa_cons (pe_callTy call_list_of (by rfl) T.b_list (by rfl) (pa_cons (pv 3) pa_nil)) pa_nil))) pa_nil))))
        (pss_cons (ps_set (i := 3) sc_law.nd rfl (.inl rfl) (pe_lst pa_nil)) (pss_one (ps_set (i := 2) sc_law.nd rfl (.inl rfl) (pe_lst pa_nil)))) pss_nil)
      (pss_cons (ps_set (i := 4) sc_law.nd rfl (.inl rfl) (C8.pe_c cD hr (by decide) rfl (pa_cons (C8.pe_c cC hr (by decide) rfl (pa_cons (pv 0) (pa_cons pe_int pa_nil))) (pa_cons (pe_callB call_len_seq (by rfl) T.b_len (by rfl) (pa_cons (pv 1) pa_nil)) pa_nil))))
      (pss_cons (ps_set (i := 5) sc_law.nd rfl (.inl rfl) (pe_lst pa_nil))
      (pss_cons (ps_for PassesOwn.never rfl (pi_range1 (by rfl) T.b_range (pa_cons (pe_callB call_len_seq (by rfl) T.b_len (by rfl) (pa_cons (pv 1) pa_nil)) pa_nil)) (pg_name (i := 6) sc_law.nd rfl (.inl rfl))
        (pss_cons (ps_set (i := 7) sc_law.nd rfl (.inl rfl) (pe_op op_mod (pe_callTy call_int1 (by rfl) T.b_int (by rfl) (pa_cons (pe_ix ix_list (pv 4) (pv 6) (fun _ _ => rfl)) pa_nil)) (pe_op op_add (pe_callB call_len_seq (by rfl) T.b_len (by rfl) (pa_cons (pv 5) pa_nil)) pe_int)))
        (pss_one (ps_set (i := 5) sc_law.nd rfl (.inl rfl) (pe_op op_cat (pe_op op_cat (pe_slice sl_list (pv 5) po_none (po_some (pv 7))) (pe_lst (pa_cons (pe_ix ix_list (pv 1) (pv 6) (fun _ _ => rfl)) pa_nil))) (pe_slice sl_list (pv 5) (po_some (pv 7)) po_none))))))
      (pss_cons (ps_if (pt_not (pt_val (C8.pe_c cO hr (Nat.le_refl _) rfl (pa_cons (pv 1) (pa_cons (pv 2) (pa_cons (pv 3) (pa_cons (pv 1) pa_nil))))))) (pss_one ps_never) pss_nil)
      (pss_one (ps_ret (C8.pe_c cO hr (Nat.le_refl _) rfl (pa_cons (pv 1) (pa_cons (pv 2) (pa_cons (pv 3) (pa_cons (pv 5) pa_nil)))))))))))), ?_⟩
    have low := small1000 (show 100 ≤ 1000 by decide)
    refine ⟨_, rfl, a, ns, rfl, hs, fun H1 p pl bl ll P B l s1 hp wl => ?_⟩
    refine ⟨p, _, rfl, SqT.of hp, rfl, _, _, rfl, _, _, rfl, _, _, rfl, rfl, ?_⟩
    obtain ⟨rs, xs, hpl, hbl, prs, hll, lks, gp, l12, gb, l20, gl⟩ := id wl
    have nd := gp.2.2.1
    have l2 := gp.1
    refine ⟨fun σ' H' => ∃ (bl' ll' : Addr) (B' : List (Str × Str)) (l' : List Leak), σ' = [some (.ref a), some (.ref pl), some (.ref bl'), some (.ref ll'), none, none, none, none] ∧ Same H1 H' ∧ Wld H' pl bl' ll' P B' l' ∧ ∃ M, PM P (rowsOf P B' l') M, ?_, ?_⟩
    · refine mk_book3 (K := K) (i := 1) (j := 2) (m := 3) (σ := [some (.ref a), some (.ref pl), some (.ref bl), some (.ref ll), none, none, none, none]) rfl rfl rfl hpl hbl prs hll lks gp gb (by omega) gl fun H2 bk s2 hbk => ?_
      refine ⟨bk, P, B, l, rfl, hbk, gp, fun hM H3 q s3 => ?_, fun hM H3 s3 => ?_⟩
      · show (if decide (V.ref q = V.non) = true then _ else _)
        rw [decide_eq_false (show ¬ V.ref q = V.non from fun z => by cases z)]
        exact iteF ⟨bl, ll, B, l, rfl, s2.trans s3, wl.same (s2.trans s3), hM⟩
      · show (if decide (V.non = V.non) = true then _ else _)
        rw [decide_eq_true (rfl : V.non = V.non)]
        refine iteT ⟨(by decide : 0 ≤ sizeLine), fun e1 n1 => ⟨(by decide : 0 ≤ sizeLine), fun e2 n2 => ?_⟩⟩
        have t1 := same_new (o := .lst []) n1
        have t2 := same_new (o := .lst []) n2
        have S := ((s2.trans s3).trans t1).trans t2
        exact ⟨e2, e1, [], [], rfl, S, ⟨[], [], S _ _ hpl, upd_same, ⟨rfl, fun i p e => by cases e⟩, t2 _ _ upd_same, ⟨rfl, fun i p e => by cases e⟩, gp, l12, ⟨by decide, by simp⟩, by decide, by simp⟩, free_pm nd l2⟩
    · rintro σ' H2 ⟨bl', ll', B', l', rfl, s2, wl2, hM⟩
      have hpl2 := s2 _ _ hpl
      have S2 := s1.trans s2
      refine ⟨_, rfl, a, ns, 30, rfl, S2.seq hs, fun c => ⟨_, rfl, pl, _, rfl, .inl (SqL.of hpl2), c, P.length, ?_, by omega, fun H3 dp ds s3 ndp edp lds gds => ?_⟩⟩
      · rw [txs_len]; rfl
      refine ⟨(by decide : 0 ≤ sizeLine), fun l0 nl0 => ?_⟩
      have s4 := same_new (o := .lst []) nl0
      have e4 : upd H3 l0 (.lst []) l0 = some (.lst (txs [])) := upd_same
      generalize upd H3 l0 (.lst []) = H4 at s4 e4 ⊢
      have t4 := s3.trans s4
      have hp2 := t4 _ _ hpl2
      have ed2 := s4 _ _ edp
      refine ⟨_, rfl, pl, _, rfl, .inl (SqL.of hp2), (P.length : Nat), by rw [txs_len], by omega, by omega, ?_⟩
      rw [Int.toNat_natCast]
      refine for_it walk_range (fun i σ H5 => ∃ (lo : Addr) (O : List Str) (v6 v7 : Option V), σ = [some (.ref a), some (.ref pl), some (.ref bl'), some (.ref ll'), some (.ref dp), some (.ref lo), v6, v7] ∧ Same H4 H5 ∧ H5 lo = some (.lst (txs O)) ∧ O.Perm (P.take i))
        ⟨l0, [], none, none, rfl, fun _ _ e => e, e4, by simp⟩ (fun _ _ _ _ _ => trivial) ?_ ?_
      · rintro i x σ H5 H6 hi ⟨lo, O, v6, v7, rfl, s5, e5, pO⟩ ⟨rfl, rfl⟩
        have z0 : (0 + (i : Int)) = (i : Int) := by omega
        have lO : O.length = i := by rw [pO.length_eq, List.length_take]; omega
        obtain ⟨d, hd⟩ := take_at (P := ds) (i := i) (by omega)
        obtain ⟨y, hy⟩ := take_at hi
        obtain ⟨m, hm, ml⟩ := modlt (z := d) (n := O.length + 1) (by omega)
        have hm2 : d % (((txs O).length : Nat) + 1 : Int) = m := by rw [txs_len]; exact hm
        refine ⟨_, rfl, _, rfl, dp, _, _, .int d, rfl, rfl, SqL.of (s5 _ _ ed2), atI_some z0 (its_at hd), .inl ⟨_, rfl, _, rfl, lo, _, rfl, .inl (SqL.of e5), _, _, rfl, rfl, _, _, rfl, rfl, (by omega : (0 : Int) < ((txs O).length : Nat) + 1), ?_⟩⟩
        refine ⟨_, rfl, _, rfl, (m : Int), congrArg V.int hm2, lo, _, rfl, SqL.of e5, fun p1 np1 => ?_⟩
        rw [cut_take (by rw [txs_len]; omega), txs_take]
        have t1 := same_new (o := .lst (txs (O.take m))) np1
        have f1 : upd H6 p1 (.lst (txs (O.take m))) p1 = some (.lst (txs (O.take m))) := upd_same
        generalize upd H6 p1 (.lst (txs (O.take m))) = H7 at t1 f1 ⊢
        refine ⟨_, rfl, _, rfl, pl, _, _, .str y, rfl, rfl, SqL.of (t1 _ _ (s5 _ _ hp2)), atI_some z0 (txs_at hy), (by decide : 1 ≤ sizeLine), fun p2 np2 => ?_⟩
        have t2 := same_new (o := .lst [.str y]) np2
        have f2 : upd H7 p2 (.lst [.str y]) p2 = some (.lst [.str y]) := upd_same
        generalize upd H7 p2 (.lst [.str y]) = H8 at t2 f2 ⊢
        refine ⟨p1, p2, _, _, rfl, rfl, t2 _ _ f1, f2, ?_, fun p3 np3 => ?_⟩
        · have : (txs (O.take m)).length ≤ O.length := by rw [txs_len, List.length_take]; omega
          show (txs (O.take m)).length + 1 ≤ sizeLine
          omega
        have t3 := same_new (o := .lst (txs (O.take m) ++ [.str y])) np3
        have f3 : upd H8 p3 (.lst (txs (O.take m) ++ [.str y])) p3 = some (.lst (txs (O.take m) ++ [.str y])) := upd_same
        generalize upd H8 p3 (.lst (txs (O.take m) ++ [.str y])) = H9 at t3 f3 ⊢
        have T3 := (t1.trans t2).trans t3
        refine ⟨_, rfl, _, rfl, (m : Int), congrArg V.int hm2, lo, _, rfl, SqL.of (T3 _ _ e5), fun p4 np4 => ?_⟩
        rw [cut_drop (by rw [txs_len]; omega), txs_drop]
        have t5 := same_new (o := .lst (txs (O.drop m))) np4
        have f5 : upd H9 p4 (.lst (txs (O.drop m))) p4 = some (.lst (txs (O.drop m))) := upd_same
        generalize upd H9 p4 (.lst (txs (O.drop m))) = Ha at t5 f5 ⊢
        refine ⟨p3, p4, _, _, rfl, rfl, t5 _ _ f3, f5, ?_, fun p5 np5 => ?_⟩
        · rw [List.length_append, txs_len, txs_len, List.length_take, List.length_drop]
          show min m O.length + 1 + (O.length - m) ≤ sizeLine
          omega
        rw [ins_txs]
        have t6 := same_new (o := .lst (txs (ins m y O))) np5
        refine ⟨p5, ins m y O, _, _, rfl, ((s5.trans T3).trans t5).trans t6, upd_same, ?_⟩
        rw [take_next hy]
        exact (ins_perm m y O).trans (pO.append_right [y])
      · rintro σ H5 ⟨lo, O, v6, v7, rfl, s5, e5, pO⟩
        rw [List.take_length] at pO
        have wl5 := wl2.same (t4.trans s5)
        refine ⟨_, rfl, _, rfl, _, rfl, _, rfl, pl, bl', ll', pl, P, P, B', l', rfl, wl5, s5 _ _ hp2, List.Perm.refl P, hM, fun H6 s6 => ⟨true, rfl, iteF ?_⟩⟩
        exact ⟨_, rfl, _, rfl, _, rfl, _, rfl, pl, bl', ll', lo, P, O, B', l', rfl, wl5.same s6, s6 _ _ e5, pO, hM, fun H7 _ => k H7⟩
end
theorem facts {P : Program} {w : World} {K : PySem.W.Frag} {h : Heap} {mg : Str → Option Value} {f : Addr} (X : K.In h) (G : h.Ns mainGlobals mg) (hfa : mg ("law" : Str) = some (.ref f)) (c : He.SaysD fa fn K) :
    ∃ fd : FuncData, (∀ (s : Shared) (v : Value), BindsTo s fd ⟨[v], []⟩ [("_law_script", v)]) ∧ ∀ base : Heap, K.In base → base.Ns mainGlobals mg → FnOk P w K mg base CX0 60 f fd ["_law_script"] (spLaw K) := by
  have T : Tx K mg := ⟨c, h, X, G⟩
  have e : f = He.ga K "law" := Value.ref.inj (Option.some.inj (hfa.symm.trans T.g_law))
  subst e
  obtain ⟨fd, F, b⟩ := T.f_law
  refine ⟨fd, ?_, fun base _ _ => (c_law T F).mono (by decide)⟩
  obtain ⟨oc, od, kV, doc, pm, an, cdv, ct, osl, rfl, lk, hcd⟩ := F.ex
  exact fun s v => .of_eq rfl
end G
set_option Elab.async false
set_option linter.all false
set_option maxRecDepth 100000
set_option maxHeartbeats 0
namespace L2
open PySem PySem.Spec PyProof.Rows
theorem walk_ofEB {l : PySem.W.OpenLaw} {n k : Nat} {q : Program} {loose : List Str} {XP : (Str → Option Value) → Heap → Prop} {YP : World → Heap → Prop} {d : DefRec} {CX : CXT} {x : Str}
    (hn : l.most = some n) (hn2 : n ≤ sizeLine) (hdf : d.params.defaults = []) (hr : Room k callerA)
    (F : ∀ (w : World) (mg : Str → Option Value) (fa : Addr) (h : Heap), YP w h → h.Ns mainGlobals mg → mg d.name = some (.ref fa) →
      ∃ (K : PySem.W.Frag) (fd : FuncData) (sp : Sp), K.In h ∧ (∀ (s : Shared) (u : Value), BindsTo s fd ⟨[u], []⟩ [(x, u)]) ∧
        (∀ (H : Hp) (a : Addr) (ns : List Int), ns.length ≤ n → (∀ z ∈ ns, Builtin.Int.intBits z ≤ 1048576) → Only H → SqL K H a (ns.map V.int) → sp [.ref a] H (fun v _ => v = .bl true) fun _ _ _ => False) ∧
        ∀ base : Heap, K.In base → base.Ns mainGlobals mg → FnOk l.prog w K mg base CX k fa fd [x] sp)
    (hCX : ∀ (H : Hp) (s : Shared) (e : Value) (s' : Shared), CX [] H s (fun _ _ _ => False) e s' → False) :
    PySem.W.WalkO q loose XP YP l.row.toRowW d [] (fun f vs => PySem.call f vs) := by
  refine Att.attach_callB hn hdf fun w s₀ s₁ mg mb fa o pm cd doc a vs ns G Y ho hd hcd hmg hobj hints hlen hbits hg => ?_
  obtain ⟨K, fd, sp, KX, hb, hsp, hF⟩ := F w mg fa _ Y G.T.g hmg
  exact law_call KX G.T.g G.T.b G.T.builtins G.T.nolimit hg hobj hints (Nat.le_trans hlen hn2) hr hF hb (fun H hO hS => hsp H a ns hlen hbits hO hS) fun H e s' => hCX H s₁ e s'
end L2
open PySem PySem.W PySem.Calls PyProof.Rows
set_option maxRecDepth 100000 in
set_option maxHeartbeats 0 in
theorem PySem.Challenge.cw_giftrings_k75_whole_first_slips_make_the_holds : PySem.Challenge.rw_giftrings_k75_whole_first_slips_make_the.Holds := by
  w_on; o_law
  refine HandSHeadRun.head_any (r := OpenLaw.row PySem.Challenge.rw_giftrings_k75_whole_first_slips_make_the) (q := view (OpenLaw.row PySem.Challenge.rw_giftrings_k75_whole_first_slips_make_the).prog [60]) (H := G.hdHook) (ob := G.hdObs) (M := 20000) (loose := G.hdNames) (d := HandSHeadRun.topDef (OpenLaw.row PySem.Challenge.rw_giftrings_k75_whole_first_slips_make_the).prog 60) (kwd := []) G.hdObs_eq
    (by kernel_rfl) (fun s => by kernel_rfl) G.hdRun (by kernel_rfl) (by kernel_rfl) (by kernel_rfl) (by rfl) (by first | assumption | decide +kernel) (by decide +kernel) ⟨rfl, rfl, rfl, rfl, rfl, by decide +kernel⟩ ?hw ?hc
  case hw => w_witness2
  case hc =>
    refine L2.walk_ofEB (l := PySem.Challenge.rw_giftrings_k75_whole_first_slips_make_the) (n := 63) (k := 60) (x := "_law_script") (CX := L2.CX0) rfl (by decide) (by kernel_rfl) ⟨rfl, by decide, by decide⟩ ?F (fun _ _ _ _ z => z)
    intro w mg fa h Y G0 hmg0
    obtain ⟨K, KX, c⟩ := Y
    have hmg : mg ("law" : PySem.Str) = some (.ref fa) := by
      have e : (HandSHeadRun.topDef (OpenLaw.row PySem.Challenge.rw_giftrings_k75_whole_first_slips_make_the).prog 60).name = ("law" : PySem.Str) := by kernel_rfl
      rw [← e]
      exact hmg0
    obtain ⟨fd, hb, hF⟩ := G.facts (P := (PySem.Challenge.rw_giftrings_k75_whole_first_slips_make_the).prog) (w := w) KX G0 hmg c
    exact ⟨K, fd, G.spLaw K, KX, hb, fun H a ns hl hbt _ hS => ⟨a, ns, rfl, hS, hl, hbt, fun _ => rfl⟩, hF⟩
