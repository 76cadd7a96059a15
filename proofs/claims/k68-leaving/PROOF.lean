import PyProof.Rows.All
import Wide.All
import OpenK.AllK
import Wide.FinOn
import KE.KOpsOwn
import KE.KOwnIter
import HandS.ForMost
import HandS.OwnEq
import HandS.IterVal
import KE.SortData
import KE.DataMinMax
import HandS.SortKw
import KE.KAssignIn
import PyProof.DictUpdate
import PyProof.NeKinds
import HandS.Dict
import HandS.Iter
import HandS.SetFor
import HandS.Strs
import PyProof.Rows.SortShellAny
import HandS.IsInst
import HandS.Deep
import HandS.Star
import HandS.SortInts
import HandS.DictComp
import HandS.DictTup
import HandS.SetKeys
import HandS.Conv
import HandS.Walk
import PyProof.DictMoreH
import KE.KDictWalk
import HandS.SortRule
import HandS.SetBool
import HandS.Keys
import HandS.Defaults
import HandS.HeadHook1
import HandS.HeadHook2
import HandS.HeadHook3
import HandS.HeadHook4
import HandS.Head0
import HandS.Head1
import HandS.Head2
import HandS.HeadEnd
import KE.GoesEnum
import HandS.Small
import HandS.Flow
import HandS.MakeKwOnly
import PyProof.EqLayable
import HandS.Text
import HandS.More
import HandS.WordsDict
import PySem.Challenge.RW_bowkinds_k68_whole_leaving_and_greatest
section
set_option Elab.async false
set_option linter.all false
set_option maxRecDepth 100000
set_option maxHeartbeats 4000000
/-! Rules for operators that a class of the program's own writes. -/
namespace Bw
open PySem PySem.Spec PyProof.Rows L2

section
variable {X : Cx} {CX : CXT} {n : Nat} {f : Addr} {fd : FuncData} {ps : List Str} {sp : Sp} {E : XK} {C : Addr}
/-- a def runs, somewhere below -/
theorem own_run {A1 : Around} {pins : List (Addr × Obj)} {σ : L2.St} {H : Hp} {s : Shared} {Q : VK} {us : List Value} {vs : List V} (sb : Sub X n A1) (F : FnOk X.prog X.w X.K X.mg X.base CX n f fd ps sp) (hb : Binds X.K fd ps []) (hx : Passes CX X E)
    (I : Inv X pins σ H s) (r : Vals vs us) (h : sp vs H Q E) : wpAny (model X.prog X.w) A1 (call (.ref f) us) (EP X pins σ Q) X.xe s := by
  have e0 : Env0 X.prog X.w X.K X.mg X.base A1 X.stack s H := by
    have e := I.env0
    exact ⟨by rw [sb.fr]; exact e.frames, e.mod, e.bs, e.bsz, e.funs, e.frf, e.hok, e.bare⟩
  have hl := F.len _ _ _ _ h
  refine wpAny_call (codeAny_mono (F.run A1 X.stack s H ⟨us, []⟩ us vs Q E sb.room e0 (by
    have := hb s us I.kIn (by rw [List.length_append, ← r.length, hl]; simp)
    simpa using this) r h) fun r s' hq => ?_)
  cases r with
  | error e => exact hx pins σ H s e s' I hq
  | ok fl =>
    cases fl with
    | ret w => exact I.after hq
    | next => exact False.elim hq
    | brk => exact False.elim hq
    | cont => exact False.elim hq
/-- what stands at an instance, for the kit's rules -/
theorem inst_at {pins : List (Addr × Obj)} {σ : L2.St} {H : Hp} {s : Shared} {a dx : Addr} {fs : List (Str × V)} (I : Inv X pins σ H s) (e : H a = some (.ins C dx fs)) :
    ∃ od, PySem.W.InstAt s.heap a (PySem.W.instObj C dx) C (some od) := by
  obtain ⟨mA, J, _⟩ := ins_get I.hok e
  obtain ⟨od, J, _⟩ := J.look
  exact ⟨od, J⟩

/-- row[i] -/
def tGet (C : Addr) (sp : Sp) (E : XK) (ta tb : TE) : TE := fun σ H Q => ta σ H fun x H1 => tb σ H1 fun y H2 => (∃ a dx fs, x = .ref a ∧ H2 a = some (.ins C dx fs)) ∧ sp [x, y] H2 Q E
theorem pe_ixOwn {a b : Expr} {ta tb : TE} {pos : Pos} (hs : PySem.W.findIn X.K (.ref C) "__getitem__" = some (some (.ref f))) (hf : PySem.W.fnIn X.K f = true) (hfn : PySem.W.isFn X.K (.ref f) = true)
    (F : FnOk X.prog X.w X.K X.mg X.base CX n f fd ps sp) (hb : Binds X.K fd ps []) (hx : Passes CX X E) (hr : Room (n + 1) X.A) (ha : PE X a ta) (hb2 : PE X b tb)
    (hsl : ∀ x i, subscripted b true (.ref x) i = runValue (.builtin "lifetime.subscript" ⟨[.ref x, i], []⟩) := by intro _ _; with_unfolding_all rfl) : PE X (.Subscript a b pos) (tGet C sp E ta tb) := by
  refine ⟨fun pins s σ H Q I h => ?_⟩
  refine Subscript_ (binT (R := fun x y H2 => (∃ a dx fs, x = .ref a ∧ H2 a = some (.ins C dx fs)) ∧ sp [x, y] H2 Q E) ha hb2 I h fun v u s2 x y H2 I2 rx ry q => ?_)
  obtain ⟨⟨p, dx, fs, rfl, hp⟩, q⟩ := q
  cases rx
  obtain ⟨od, J⟩ := inst_at I2 hp
  obtain ⟨m, hF⟩ := I2.fr
  exact PySem.W.sub_K hF I2.ok.mod.kin J hs hf hfn (own_run (vs := [.ref p, y]) (Sub.in1 ⟨hr, rfl⟩) F hb hx I2 (.cons rfl (.cons ry .nil)) q) (hsl _ _)
/-- len(row) -/
theorem call_lenOwn (hs : PySem.W.findIn X.K (.ref C) "__len__" = some (some (.ref f))) (hfn : PySem.W.isFn X.K (.ref f) = true)
    (F : FnOk X.prog X.w X.K X.mg X.base CX n f fd ps sp) (hb : Binds X.K fd ps []) (hx : Passes CX X E) (hr : Room (n + 1) X.A) :
    CallR X (.builtin "len") (fun xs H Q => ∃ a dx fs, xs = [.ref a] ∧ H a = some (.ins C dx fs) ∧ sp [.ref a] H (fun v H' => ∃ k : Nat, v = .int k ∧ k < 2 ^ 62 ∧ Q (.int k) H') E) := by
  intro pins s σ H xs us Q I r h
  obtain ⟨a, dx, fs, rfl, ha, q⟩ := h
  obtain ⟨u, rfl, ru⟩ := vals1 r
  cases ru
  obtain ⟨od, J⟩ := inst_at I ha
  obtain ⟨m, hF⟩ := I.fr
  refine PySem.W.len_K hF I.ok.mod.kin J hs hfn (wpAny_mono (own_run (vs := [.ref a]) (Sub.in1 ⟨hr, rfl⟩) F hb hx I (.cons rfl .nil) q) (fun v s' hq => ?_) fun _ _ z => z)
  obtain ⟨x, H', I', rx, k, rfl, hk, q⟩ := hq
  obtain ⟨t, rfl⟩ := rx
  exact ⟨⟨by omega, by omega⟩, .int k, H', I'.tok _, ⟨_, rfl⟩, q⟩
/-- ~kind -/
theorem un_invOwn (hs : PySem.W.findIn X.K (.ref C) "__invert__" = some (some (.ref f))) (hfn : PySem.W.isFn X.K (.ref f) = true)
    (F : FnOk X.prog X.w X.K X.mg X.base CX n f fd ps sp) (hb : Binds X.K fd ps []) (hx : Passes CX X E) (hr : Room n X.A) :
    UnR X (unaryOp .Invert) (fun x H Q => (∃ a dx fs, x = .ref a ∧ H a = some (.ins C dx fs)) ∧ sp [x] H Q E) := by
  intro pins s σ H x v Q I rx h
  obtain ⟨⟨a, dx, fs, rfl, ha⟩, q⟩ := h
  cases rx
  obtain ⟨od, J⟩ := inst_at I ha
  obtain ⟨m, hF⟩ := I.fr
  exact PySem.W.ksp_inv hF I.ok.mod.kin J hs hfn (own_run (vs := [.ref a]) ⟨hr, rfl⟩ F hb hx I (.cons rfl .nil) q)
/-- one | other -/
theorem op_orOwn (hc : PySem.W.selfFirst X.K C = true) (hs : PySem.W.findIn X.K (.ref C) "__or__" = some (some (.ref f))) (hfn : PySem.W.isFn X.K (.ref f) = true)
    (F : FnOk X.prog X.w X.K X.mg X.base CX n f fd ps sp) (hb : Binds X.K fd ps []) (hx : Passes CX X E) (hr : Room n X.A) :
    OpR X (binaryOp .BitOr) (fun x y H Q => (∃ a b dx dy fs gs, x = .ref a ∧ y = .ref b ∧ H a = some (.ins C dx fs) ∧ H b = some (.ins C dy gs)) ∧ sp [x, y] H (fun v H' => (∃ p, v = .ref p) ∧ Q v H') E) := by
  intro pins s σ H x y v u Q I rx ry h
  obtain ⟨⟨a, b, dx, dy, fs, gs, rfl, rfl, ha, hb'⟩, q⟩ := h
  cases rx
  cases ry
  obtain ⟨od, J⟩ := inst_at I ha
  obtain ⟨od', J'⟩ := inst_at I hb'
  obtain ⟨m, hF⟩ := I.fr
  refine PySem.W.binop_K (op := .BitOr) hF I.ok.mod.kin J J'.type hc hs hfn (wpAny_mono (own_run (vs := [.ref a, .ref b]) ⟨hr, rfl⟩ F hb hx I (.cons rfl (.cons rfl .nil)) q) (fun v s' hq => ?_) fun _ _ z => z)
  obtain ⟨x, H', I', rx, ⟨p, rfl⟩, q⟩ := hq
  cases rx
  exact ⟨.ref p, H', I', rfl, q⟩
/-- thing in kind -/
theorem op_inOwn (hs : PySem.W.findIn X.K (.ref C) "__contains__" = some (some (.ref f))) (hfn : PySem.W.isFn X.K (.ref f) = true)
    (F : FnOk X.prog X.w X.K X.mg X.base CX n f fd ps sp) (hb : Binds X.K fd ps []) (hx : Passes CX X E) (hr : Room n X.A) :
    OpR X (compareOp .In) (fun x y H Q => (∃ a dx fs, y = .ref a ∧ H a = some (.ins C dx fs)) ∧ sp [y, x] H (fun v H' => ∃ b, v = .bl b ∧ Q (.bl b) H') E) := by
  intro pins s σ H x y v u Q I rx ry h
  obtain ⟨⟨a, dx, fs, rfl, ha⟩, q⟩ := h
  cases ry
  obtain ⟨od, J⟩ := inst_at I ha
  obtain ⟨m, hF⟩ := I.fr
  refine PySem.W.in_K hF I.ok.mod.kin J hs hfn (wpAny_mono (own_run (vs := [.ref a, x]) ⟨hr, rfl⟩ F hb hx I (.cons rfl (.cons rx .nil)) q) (fun v s' hq => ?_) fun _ _ z => z)
  obtain ⟨x, H', I', rx, b, rfl, q⟩ := hq
  cases rx
  exact wpAny_truthy_bool ⟨.bl b, H', I', rfl, q⟩
end
end Bw
end
section
set_option Elab.async false
set_option linter.all false
set_option maxRecDepth 100000
set_option maxHeartbeats 4000000
/-! sorted, min and max of data. -/
namespace Bw
open PySem PySem.Spec PyProof.Rows L2

theorem vals_each : ∀ {ps : List (V × PyData)} {us : List Value}, Vals (ps.map (·.1)) us → PySem.W.EachIs (fun v (b : V × PyData) => RelV b.1 v) us ps
  | [], _, r => by
    rw [List.map_nil] at r
    cases r
    exact .nil
  | p :: ps, _, r => by
    rw [List.map_cons] at r
    cases r with
    | cons h t => exact .cons h (vals_each t)
theorem each_vals : ∀ {ps : List (V × PyData)} {us : List Value}, PySem.W.EachIs (fun v (b : V × PyData) => RelV b.1 v) us ps → Vals (ps.map (·.1)) us
  | [], _, r => by
    cases r
    exact .nil
  | p :: ps, _, r => by
    cases r with
    | cons h t => exact .cons h (each_vals t)
section
variable {X : Cx} {pins : List (Addr × Obj)} {σ : L2.St} {H : Hp} {s : Shared}
theorem each_reads (I : Inv X pins σ H s) : ∀ {ps : List (V × PyData)} {us : List Value}, Vals (ps.map (·.1)) us → (∀ p ∈ ps, Dp X.K H p.1 p.2) → PySem.W.EachIs (fun v (b : V × PyData) => ∃ as, Reads s.heap v b.2 as) us ps
  | [], _, r, _ => by
    rw [List.map_nil] at r
    cases r
    exact .nil
  | p :: ps, _, r, h => by
    rw [List.map_cons] at r
    cases r with
    | cons hr t => exact .cons (Dp.reads I _ _ _ (h p (by simp)) hr) (each_reads I t fun q hq => h q (List.mem_cons_of_mem _ hq))
theorem dpAll_of {K : PySem.W.Frag} : ∀ {ps : List (V × PyData)}, (∀ p ∈ ps, Dp K H p.1 p.2) → DpAll K H (ps.map (·.1)) (ps.map (·.2))
  | [], _ => .nil
  | p :: ps, h => .cons (h p (by simp)) (dpAll_of fun q hq => h q (List.mem_cons_of_mem _ hq))
/-- sorted(xs), xs a list of data, any length -/
def rSortedG (K : PySem.W.Frag) : List V → Hp → VK → Prop := fun vs H Q => ∃ (a : Addr) (ps : List (V × PyData)), vs = [V.ref a] ∧ SqL K H a (ps.map (·.1)) ∧ (∀ p ∈ ps, Dp K H p.1 p.2) ∧ PySem.W.AllAlike (ps.map (·.2)) ∧ PySem.W.Sortable (ps.map (·.2)) ∧ (∀ p ∈ ps, p.2.depth ≤ 60) ∧
  ∀ q, H q = none → Q (.ref q) (upd H q (.lst ((ps.mergeSort (PySem.W.dataLe false Prod.snd)).map (·.1))))
theorem cr_sortedG (hu : X.A.units + 64 < cLine) : CallR X (.builtin "sorted") (rSortedG X.K) := by
  intro pins s σ H vs us Q I r h
  obtain ⟨a, ps, rfl, hs, hd, hal, hk, hdep, q⟩ := h
  obtain ⟨its, rv, hl, hz⟩ := I.list hs
  rw [Vals.ref1 r]
  have hz' : ps.length ≤ sizeLine := by rw [List.length_map] at hz; exact hz
  refine PySem.W.sorted_data (bs := ps) (enc := Prod.snd) (R := fun v (b : V × PyData) => RelV b.1 v) hl.isList (vals_each rv) (each_reads I rv hd) hal hk hz' (fun b hb => by have := hdep b hb; omega) fun out ho eo => ?_
  obtain ⟨ep, he'⟩ := PyProof.Rows.sortedAll_at s.heap its out.toArray
  have hlen : ((ps.mergeSort (PySem.W.dataLe false Prod.snd)).map (·.1)).length ≤ sizeLine := by
    rw [List.length_map, List.length_mergeSort]
    exact hz'
  exact ⟨.ref _, upd H (s.heap.objs.size + 1) (.lst ((ps.mergeSort (PySem.W.dataLe false Prod.snd)).map (·.1))), I.laid (t' := s.toks) (fun _ _ => PyProof.Rows.sortedAll_old) (Nat.le_succ _) ⟨hlen, out, ep, each_vals eo, he'⟩, rfl, q _ (I.hok.fresh (Nat.le_succ _))⟩
/-- min(xs), xs a list of data: one of them, the least of all -/
def rMinG (K : PySem.W.Frag) : List V → Hp → VK → Prop := fun vs H Q => ∃ (a : Addr) (p0 : V × PyData) (ps : List (V × PyData)), vs = [V.ref a] ∧ SqL K H a ((p0 :: ps).map (·.1)) ∧ (∀ p ∈ p0 :: ps, Dp K H p.1 p.2) ∧ PySem.W.AlikeAll ((p0 :: ps).map (·.2)) ∧ PyData.depthAll ((p0 :: ps).map (·.2)) ≤ 60 ∧
  ∀ p ∈ p0 :: ps, p.2 = PySem.W.minD p0.2 (ps.map (·.2)) → Q p.1 H
theorem vals_get' {xs : List V} {us : List Value} {i : Nat} {u : Value} (r : Vals xs us) (e : us[i]? = some u) : ∃ x, xs[i]? = some x ∧ RelV x u := by
  cases q : xs[i]? with
  | none =>
    rw [r.none_of q] at e
    cases e
  | some x =>
    obtain ⟨w, h1, h2⟩ := r.get q
    rw [h1] at e
    cases e
    exact ⟨x, rfl, h2⟩
theorem cr_minG (hc : X.calm = true) (hu : X.A.units + 64 < cLine) : CallR X (.builtin "min") (rMinG X.K) := by
  intro pins s σ H vs us Q I r h
  obtain ⟨a, p0, ps, rfl, hs, hd, hal, hdep, q⟩ := h
  obtain ⟨its, rv, hl, hz⟩ := I.list hs
  rw [Vals.ref1 r]
  obtain ⟨as, hr⟩ := Dp.readsAll I _ _ _ (dpAll_of hd) rv
  refine PySem.W.min_list_data (I.ok.hd hc) hl.isList (x := p0.2) (xs := ps.map (fun z : V × PyData => z.2)) (as := as) (by simpa using hr) hal (by show X.A.units + 1 + PyData.depthAll ((p0 :: ps).map (·.2)) < cLine; omega) fun i v h' tk bs hv hrv hk => ?_
  have hv' : its[i]? = some v := by simpa using hv
  obtain ⟨x, hx, rx⟩ := vals_get' rv hv'
  rw [List.getElem?_map] at hx
  cases e : (p0 :: ps)[i]? with
  | none =>
    rw [e] at hx
    cases hx
  | some p =>
    rw [e] at hx
    have ex : p.1 = x := Option.some.inj hx
    have hm : p ∈ p0 :: ps := List.mem_of_getElem? e
    obtain ⟨as1, r1⟩ := Dp.reads I _ _ _ (hd p hm) (show RelV p.1 v by rw [ex]; exact rx)
    have r1' := PyProof.Rows.Reads.keeps hk r1
    have ed : p.2 = PySem.W.minD p0.2 (ps.map (·.2)) := (PySem.Reads.unique r1' _ _ hrv).1
    exact ⟨p.1, H, I.kept (t' := tk) hk, by rw [ex]; exact rx, q p hm ed⟩
/-- max(xs, default=d), xs a list of ints -/
def rMaxD (K : PySem.W.Frag) : List V → List V → Hp → VK → Prop := fun vs zs H Q => ∃ (a : Addr) (ns : List Int) (d : Int), vs = [V.ref a] ∧ zs = [V.int d] ∧ SqL K H a (ns.map V.int) ∧
  (ns = [] → Q (.int d) H) ∧ ∀ m, m ∈ ns → (∀ y ∈ ns, y ≤ m) → Q (.int m) H
theorem maxD_int (n : Int) (ns : List Int) : ∃ m, PySem.W.maxD (.int n) (ns.map .int) = .int m ∧ m ∈ n :: ns ∧ ∀ y ∈ n :: ns, y ≤ m := by
  rw [PySem.W.maxD_ints]
  refine ⟨_, rfl, ?_⟩
  induction ns generalizing n with
  | nil => exact ⟨by simp, fun y hy => by have : y = n := by simpa using hy
                                          subst this; exact Int.le_refl _⟩
  | cons k r ih =>
    obtain ⟨h1, h2⟩ := ih (max n k)
    rw [List.foldl_cons]
    refine ⟨?_, fun y hy => ?_⟩
    · rcases List.mem_cons.mp h1 with e | h1
      · rw [e]
        rcases Int.le_total n k with c | c
        · rw [Int.max_eq_right c]; simp
        · rw [Int.max_eq_left c]; simp
      · exact List.mem_cons_of_mem _ (List.mem_cons_of_mem _ h1)
    · have h3 := h2 (max n k) (by simp)
      rcases List.mem_cons.mp hy with e | hy
      · subst e; omega
      · rcases List.mem_cons.mp hy with e | hy
        · subst e; omega
        · exact h2 y (List.mem_cons_of_mem _ hy)
theorem dp_ints (K : PySem.W.Frag) (H : Hp) : ∀ ns : List Int, DpAll K H (ns.map V.int) (ns.map PyData.int)
  | [] => .nil
  | n :: ns => .cons (.int n) (dp_ints K H ns)
theorem alikeAll_ints (ns : List Int) : PySem.W.AlikeAll (ns.map PyData.int) := by
  refine ⟨fun x hx y hy => ?_, fun x hx => ?_⟩
  · obtain ⟨a, _, rfl⟩ := List.mem_map.mp hx
    obtain ⟨b, _, rfl⟩ := List.mem_map.mp hy
    simp [PySem.W.alike]
  · obtain ⟨a, _, rfl⟩ := List.mem_map.mp hx
    intro e; cases e
theorem cr_maxD (hc : X.calm = true) (hu : X.A.units + 64 < cLine) : CallRK X (.builtin "max") ["default"] (rMaxD X.K) := by
  intro pins s σ H vs zs us ws Q I r rz h
  obtain ⟨a, ns, d, rfl, rfl, hs, q0, q⟩ := h
  obtain ⟨its, rv, hl, hz⟩ := I.list hs
  rw [Vals.ref1 r]
  obtain ⟨wd, rfl, rd⟩ := vals1 rz
  obtain ⟨as, hr⟩ := Dp.readsAll I _ _ _ (dp_ints X.K H ns) rv
  refine PySem.W.max_list_default (d := wd) (I.ok.hd hc) hl.isList (xs := ns.map PyData.int) (as := as) (by simpa using hr) (alikeAll_ints ns) (by rw [PySem.W.depth_ints]; omega) (fun e h' tk hk => ?_) fun y ys i v h' tk bs e hv hrv hk => ?_
  · have e' : ns = [] := by simpa using e
    exact ⟨.int d, H, I.kept (t' := tk) hk, rd, q0 e'⟩
  · cases ns with
    | nil => cases e
    | cons n ns =>
      rw [List.map_cons] at e
      injection e with e1 e2
      subst e1 e2
      obtain ⟨m, em, h1, h2⟩ := maxD_int n ns
      rw [em] at hrv
      cases hrv
      exact ⟨.int m, H, I.kept (t' := tk) hk, ⟨_, rfl⟩, q m h1 h2⟩
end
/-! ### pairs of numbers -/
abbrev pr (p : Int × Int) : PyData := .tuple [.int p.1, .int p.2]
theorem minD_pairs : ∀ (l : List (Int × Int)) (x : Int × Int), ∃ m, m ∈ x :: l ∧ PySem.W.minD (pr x) (l.map pr) = pr m ∧ ∀ y ∈ x :: l, m.1 ≤ y.1
  | [], x => ⟨x, by simp, rfl, fun y hy => by have : y = x := by simpa using hy
                                              subst this; exact Int.le_refl _⟩
  | k :: r, x => by
    have e : PySem.W.minD (pr x) ((k :: r).map pr) = PySem.W.minD (if PySem.W.dataLt (pr k) (pr x) = true then pr k else pr x) (r.map pr) := rfl
    have hlt : PySem.W.dataLt (pr k) (pr x) = decide (k.1 < x.1 ∨ (k.1 = x.1 ∧ k.2 < x.2)) := PySem.W.dataLt_ii _ _ _ _
    rw [e, hlt]
    by_cases c : k.1 < x.1 ∨ (k.1 = x.1 ∧ k.2 < x.2)
    · rw [decide_eq_true c, if_pos rfl]
      obtain ⟨m, h1, h2, h3⟩ := minD_pairs r k
      refine ⟨m, List.mem_cons_of_mem _ h1, h2, fun y hy => ?_⟩
      have h4 := h3 k (by simp)
      rcases List.mem_cons.mp hy with e | hy
      · subst e; omega
      · exact h3 y hy
    · rw [decide_eq_false c, if_neg Bool.false_ne_true]
      obtain ⟨m, h1, h2, h3⟩ := minD_pairs r x
      refine ⟨m, ?_, h2, fun y hy => ?_⟩
      · rcases List.mem_cons.mp h1 with e | h1
        · rw [e]; simp
        · exact List.mem_cons_of_mem _ (List.mem_cons_of_mem _ h1)
      · have h4 := h3 x (by simp)
        rcases List.mem_cons.mp hy with e | hy
        · subst e; omega
        · rcases List.mem_cons.mp hy with e | hy
          · subst e; omega
          · exact h3 y (List.mem_cons_of_mem _ hy)
theorem pr_inj {p q : Int × Int} (h : pr p = pr q) : p = q := by
  obtain ⟨a, b⟩ := p
  obtain ⟨c, d⟩ := q
  simp only [pr, PyData.tuple.injEq, List.cons.injEq, PyData.int.injEq, and_true] at h
  rw [h.1, h.2]
end Bw
end
section
set_option Elab.async false
set_option linter.all false
set_option maxRecDepth 100000
set_option maxHeartbeats 4000000
/-! xs[i] op= e, a walk over a list or tuple, xs == [], self.f as a target, dict.update. -/
namespace Bw
open PySem PySem.Spec PyProof.Rows L2
section
variable {X : Cx}
/-- what stands at i of a list, read by getItem -/
theorem get_list : PGet X (rIxL X.K) := by
  intro pins s σ H o i ov iv Q I ro ri h
  obtain ⟨p, xs, k, z, rfl, rfl, hq, he, q⟩ := h
  cases ro
  obtain ⟨t, rfl⟩ := ri
  obtain ⟨its, r, pl, hz⟩ := I.list hq
  obtain ⟨j, h1, h2, h3, h4, h5⟩ := atI_get he
  obtain ⟨w, ew, rw'⟩ := r.get h2
  have hl := r.length
  have hn := line63
  have fin : EP X pins σ Q w s := ⟨z, H, I, rw', q⟩
  by_cases h0 : 0 ≤ k
  · have hj : k.toNat = j := by
      rw [seqIndex_of h0 h5] at h1
      exact Option.some.inj h1
    exact wpAny_getItem_list pl.isList h0 (by omega) (by rw [hj]; simpa using ew) fin
  · have hj : (k + (its.toArray.size : Int)).toNat = j := by
      rw [seqIndex_neg (by omega) h4] at h1
      rw [List.size_toArray, ← hl]
      exact Option.some.inj h1
    exact wpAny_getItem_list_neg pl.isList (by omega) (by rw [List.size_toArray] <;> omega) (by omega) (by rw [hj]; simpa using ew) fin
/-- xs == [] -/
def rNil (K : PySem.W.Frag) (n : Bool) : R2 := fun x y H Q => ∃ a b xs, x = V.ref a ∧ y = V.ref b ∧ SqL K H a xs ∧ SqL K H b [] ∧ Q (.bl (if n then !xs.isEmpty else xs.isEmpty)) H
theorem op_eqNil (hu : X.A.units + 1 < cLine) : OpR X (compareOp .Eq) (rNil X.K false) := by
  intro pins s σ H x y v u Q I rx ry h
  obtain ⟨a, b, xs, rfl, rfl, ha, hb, q⟩ := h
  cases rx
  cases ry
  obtain ⟨its, rv, p, hz⟩ := I.list ha
  obtain ⟨jts, rw', p', hz'⟩ := I.list hb
  have e0 : jts = [] := by
    cases rw'
    rfl
  subst e0
  cases xs with
  | nil =>
    cases rv
    exact SeqAt.eq_listAt p.isList p'.isList rfl (by omega) (e := fun _ => true) (fun j h1 _ => absurd h1 (by simp)) ⟨.bl true, H, I, rfl, q⟩
  | cons x xs =>
    have := rv.length
    refine SeqAt.eq_list_lengthsAt p.isList p'.isList (by cases its with | nil => simp at this | cons => rfl) (by omega) ⟨.bl false, H, I, rfl, q⟩
theorem op_neNil (hu : X.A.units + 1 < cLine) : OpR X (compareOp .NotEq) (rNil X.K true) := by
  intro pins s σ H x y v u Q I rx ry h
  obtain ⟨a, b, xs, rfl, rfl, ha, hb, q⟩ := h
  cases rx
  cases ry
  obtain ⟨its, rv, p, hz⟩ := I.list ha
  obtain ⟨jts, rw', p', hz'⟩ := I.list hb
  have e0 : jts = [] := by
    cases rw'
    rfl
  subst e0
  cases xs with
  | nil =>
    cases rv
    exact SeqAt.RcNeAt.lists p.isList p'.isList rfl (by omega) (e := fun _ => true) (fun j h1 _ => absurd h1 (by simp)) _ _ _ _ ⟨.bl false, H, I, rfl, q⟩
  | cons x xs =>
    have := rv.length
    refine SeqAt.RcNeAt.lists_lengths p.isList p'.isList (by cases its with | nil => simp at this | cons => rfl) (by omega) _ _ _ _ ⟨.bl true, H, I, rfl, q⟩
/-- self.f as one of several targets -/
def gFld (K : PySem.W.Frag) (f : Str) (to : TE) : TG := fun v σ H Q => to σ H fun x H1 => ∃ a C dx fs, x = .ref a ∧ H1 a = some (.ins C dx fs) ∧ Cls K C ∧ NoAttr K C f ∧ fs.length < 1000 ∧ Q σ (upd H1 a (.ins C dx (putF f v fs)))
theorem pg_fld {o : Expr} {f : Str} {pos : Pos} {to : TE} (ho : PE X o to) : PG X (.Attribute o f pos) (gFld X.K f to) := by
  refine ⟨fun pins s σ H v u Q I r h => ?_⟩
  refine PySem.W.kas_attr (thn (ho.run pins s σ H _ I h) fun ov s1 ⟨x, H1, I1, r1, a, C, dx, fs, ex, ea, c, n, l, q⟩ => ?_)
  subst ex
  obtain rfl : ov = Value.ref a := r1
  exact setattr_ok I1 ea c n l r fun s3 I3 => ⟨σ, _, I3, q⟩
/-- d.update(e) -/
def rUpd : V → List V → Hp → VK → Prop := fun x vs H Q => ∃ a b kvs more, x = .ref a ∧ vs = [.ref b] ∧ a ≠ b ∧ H a = some (.dK kvs) ∧ H b = some (.dK more) ∧ kvs.length + more.length ≤ 1000 ∧ Q .non (upd H a (.dK (mergeK kvs more)))
theorem mt_update : MtM X "dict.update" rUpd := by
  intro pins s σ H x vs v us Q I rx rv h
  obtain ⟨a, b, kvs, more, rfl, rfl, hab, ha, hb, hl, q⟩ := h
  cases rx
  obtain ⟨u, rfl, ru⟩ := rv.one
  cases ru
  obtain ⟨z, hd, xs, rel, dd⟩ := dk_of I.hok ha
  obtain ⟨z2, hd2, ys, rel2, dd2⟩ := dk_of I.hok hb
  have hz : (1000 : Nat) ≤ sizeLine := by decide
  have hlen : xs.length + ys.length ≤ sizeLine := by rw [← rel.length, ← rel2.length]; omega
  refine call_meetsIn PySem.F.slot_dict_update dd.typeIs PySem.F.entry_dict_update (PySem.F.args_dict_update_2 _ _) (meets_dict_update (mixKind X.prog X.w) a b hab hd2) ⟨xs, ys, dd, dd2, hlen, fun h' d1 d2 hs => ?_⟩
  have he : ∃ q, h'.get? a = some q := let ⟨q, _, _, hq, _⟩ := d1; ⟨q, hq⟩
  have hl2 : (mergeK kvs more).length ≤ sizeLine := by
    have := length_mergeK more kvs
    omega
  exact ⟨.non, _, d_write (t' := s.toks) I (by rw [ha]; exact True.intro) hs he (dk_new hl2 hd (KV.merge rel2 rel) d1), rfl, q⟩
end
end Bw
end
section
set_option Elab.async false
set_option linter.all false
set_option maxRecDepth 100000
set_option maxHeartbeats 4000000
/-! Sets of texts that can be walked: made of a list, sorted. -/
namespace Bw
open PySem PySem.Spec PyProof.Rows L2
def keyS (e : Int × Value) : Str := match e.2 with | .str k _ => k | _ => ⟨#[]⟩
def GoodS (w : World) (e : Int × Value) : Prop := ∃ k tk, e.2 = Value.str k tk ∧ e.1 = hashStr w k
/-- the set of texts at a: S tells its members, n how many; its table rises -/
def SetS (w : World) (h : Heap) (a : Addr) (S : Str → Prop) (n : Nat) : Prop :=
  ∃ o es ep t, h.get? a = some o ∧ o.ExactSet ∧ o.data = .set es ep t ∧ (∀ e ∈ es.toList, GoodS w e) ∧ (es.toList.map keyS).Nodup ∧ (∀ k, S k ↔ k ∈ es.toList.map keyS) ∧
    es.size < scanBound ∧ t.fits es.size = true ∧ es.size = n ∧ Ris t.place.toList ∧ (w.params.followText "set-order" = true ∨ t.led = true)
section
variable {P : Program} {w : World} {h h' : Heap} {a : Addr} {S : Str → Prop} {n : Nat}
theorem SetS.at (R : SetS w h a S n) (k : ∀ o, h.get? a = some o → h'.get? a = some o) : SetS w h' a S n := by
  obtain ⟨o, es, ep, t, ho, r⟩ := R
  exact ⟨o, es, ep, t, k o ho, r⟩
theorem SetS.congr {S' : Str → Prop} (R : SetS w h a S n) (e : ∀ k, S' k ↔ S k) : SetS w h a S' n := by
  obtain ⟨o, es, ep, t, h1, h2, h3, h4, h5, h6, r⟩ := R
  exact ⟨o, es, ep, t, h1, h2, h3, h4, h5, fun k => (e k).trans (h6 k), r⟩
theorem isStr_self (k : Str) (t : Tok) : (PySem.strKind P w).is k (.str k t) = true := by simp [PySem.strKind, Value.isStrOf]
theorem goodS_elems {l : List (Int × Value)} (g : ∀ e ∈ l, GoodS w e) : ElemsOf (PySem.strKind P w) l := fun e he => by
  obtain ⟨k, tk, h1, h2⟩ := g e he
  exact ⟨⟨k, by rw [h1]; exact isStr_self k tk, h2⟩, by rw [h1] <;> rfl⟩
theorem goodS_is {e : Int × Value} (g : GoodS w e) (k : Str) : (PySem.strKind P w).is k e.2 = true ↔ keyS e = k := by
  obtain ⟨k0, tk, h1, _⟩ := g
  unfold keyS
  rw [h1]
  constructor
  · intro q
    obtain ⟨t, e⟩ := Value.isStrOf_shape (show Value.isStrOf k (.str k0 tk) = true from q)
    injection e with e1 _
  · rintro rfl
    exact isStr_self _ tk
theorem goodS_mem {l : List (Int × Value)} (g : ∀ e ∈ l, GoodS w e) (k : Str) : k ∈ l.map keyS ↔ ∃ e ∈ l, (PySem.strKind P w).is k e.2 = true := by
  rw [List.mem_map]
  exact ⟨fun ⟨e, he, q⟩ => ⟨e, he, (goodS_is (g e he) k).2 q⟩, fun ⟨e, he, q⟩ => ⟨e, he, (goodS_is (g e he) k).1 q⟩⟩
end
section
variable {P : Program} {w : World} {A : Around} {E : Value → Shared → Prop} {s : Shared} {a : Addr} {S : Str → Prop} {n : Nat}
theorem setS_tail {g : Bool → Sem Unit} (hg : ∀ (b : Bool) (s₁ : Shared) (Q' : Unit → Shared → Prop), Q' () s₁ → wpAny (model P w) A (g b) Q' E s₁)
    {o : Obj} {es : Array (Int × Value)} {ep : Nat} {t : SetTable} (ho : s.heap.get? a = some o) (hex : o.ExactSet) (hd : o.data = .set es ep t)
    {es1 : Array (Int × Value)} {t2 : SetTable} {S' : Str → Prop} (g1 : ∀ e ∈ es1.toList, GoodS w e) (nd1 : (es1.toList.map keyS).Nodup) (m1 : ∀ k, S' k ↔ k ∈ es1.toList.map keyS)
    (hb1 : es1.size < scanBound) (hf2 : t2.fits es1.size = true) (hr : Ris t2.place.toList) (hl : w.params.followText "set-order" = true ∨ t2.led = true) {wasDummy : Bool} {R : Option Bool → Shared → Prop}
    (hR : ∀ h', Heap.SameBut a s.heap h' → SetS w h' a S' es1.size → R (some true) { s with heap := h' }) :
    wpAny (model P w) A (do
        storeSet a es1 t2
        if (!wasDummy && t2.tooFull) = true then do
            g (relayAll t2 es1 (SetTable.grown es1.size)).2.2
            storeSet a (relayAll t2 es1 (SetTable.grown es1.size)).1 (relayAll t2 es1 (SetTable.grown es1.size)).2.1
            pure (some true)
          else pure (some true)) R E s := by
  refine wpAny_bind (wpAny_storeSet_of ho hd ?_ (fits_of_scanBound hb1))
  have ho1 := store_at (es' := es1) (t' := t2) ho hd
  have sb1 := Heap.SameBut.update s.heap a (Obj.putSet es1 t2)
  split
  · have pm := relayAll_perm t2 es1 (SetTable.grown es1.size)
    have hf3 := relayAll_fits t2 es1 (SetTable.grown es1.size)
    have hr3 := relayAll_ris t2 es1 (SetTable.grown es1.size)
    have hl3 := relayAll_led t2 es1 (SetTable.grown es1.size)
    generalize relayAll t2 es1 (SetTable.grown es1.size) = Z at pm hf3 hr3 hl3 ⊢
    obtain ⟨es2, t3, gave⟩ := Z
    dsimp only at pm hf3 hr3 hl3 ⊢
    have hsz : es2.size = es1.size := by rw [← Array.length_toList, pm.length_eq, Array.length_toList]
    have hb2 : es2.size < scanBound := by rw [hsz]; exact hb1
    refine wpAny_bind (hg _ _ _ ?_)
    refine wpAny_bind (wpAny_storeSet_of ho1 rfl ?_ (fits_of_scanBound hb2))
    have ho2 := store_at (es' := es2) (t' := t3) ho1 rfl
    refine wpAny_pure (hR _ (sb1.trans (Heap.SameBut.update _ a _)) ?_)
    exact ⟨_, es2, _, t3, ho2, hex, rfl, fun e he => g1 e (pm.mem_iff.mp he), (pm.map keyS).nodup_iff.mpr nd1, fun k => (m1 k).trans (pm.map keyS).mem_iff.symm, hb2, hf3, hsz, hr3, hl.imp id fun z => by rw [hl3]; exact z⟩
  · exact wpAny_pure (hR _ sb1 ⟨_, es1, _, t2, ho1, hex, rfl, g1, nd1, m1, hb1, hf2, rfl, hr, hl⟩)
theorem setS_add {k : Str} {tk : Tok} {Q : Bool → Shared → Prop} (R : SetS w s.heap a S n) (room : n + 1 < scanBound)
    (hQ : ∀ b h' n', Heap.SameBut a s.heap h' → n' ≤ n + 1 → SetS w h' a (fun j => S j ∨ j = k) n' → Q b { s with heap := h' }) :
    wpAny (model P w) A (setAddHashed a (.str k tk) ((PySem.strKind P w).hash k)) Q E s := by
  obtain ⟨o, es, ep, t, ho, hex, hd, g, nd, hm, hb, hf, hn, hr, hl⟩ := R
  have hkey : (PySem.strKind P w).is k (.str k tk) = true := isStr_self k tk
  have hsc : (Value.str k tk).scannable = true := rfl
  have hel : ElemsOf (PySem.strKind P w) es.toList := goodS_elems g
  unfold setAddHashed setAddHashedIn
  refine wpAny_holding (wpAny_bind (wpAny_setState_of ho hd hf ?_))
  dsimp only
  rw [byScan_of hsc hb hel]
  simp only [↓reduceIte]
  unfold setAddByScan
  refine wpAny_bind ?_
  refine wpAny_bind (wpAny_rule ?_)
  refine wpAny_bind (wpAny_setScan_of hkey ho hd hf hel ?_)
  cases hfi : List.findIdx? (fun e => (PySem.strKind P w).is k e.2) es.toList with
  | some j =>
    dsimp only
    obtain ⟨hj, pj, _⟩ := List.findIdx?_eq_some_iff_getElem.mp hfi
    have hSk : S k := (hm k).2 ((goodS_mem (P := P) (w := w) g k).2 ⟨es.toList[j], List.getElem_mem hj, pj⟩)
    refine wpAny_pure (wpAny_pure ?_)
    exact hQ _ s.heap n (Heap.SameBut.refl a s.heap) (Nat.le_succ n) ⟨o, es, ep, t, ho, hex, hd, g, nd, fun i => by
      rw [← hm i]
      exact ⟨fun z => z.elim id (fun e => e ▸ hSk), .inl⟩, hb, hf, hn, hr, hl⟩
  | none =>
    dsimp only
    have hnk : k ∉ es.toList.map keyS := fun z => by
      obtain ⟨e, he, q⟩ := (goodS_mem (P := P) (w := w) g k).1 z
      have c := List.findIdx?_eq_none_iff.mp hfi e he
      rw [q] at c
      cases c
    have hgw : ∀ (b : Bool) {s₁ : Shared} {Q' : Unit → Shared → Prop}, Q' () s₁ → wpAny (model P w) A (match b with | true => rule "set.scan.the-table-gave-way" | false => pure ()) Q' E s₁ :=
      fun b s₁ Q' q => by cases b <;> first | exact wpAny_pure q | exact wpAny_rule q
    have pm := layNew_perm t es ((PySem.strKind P w).hash k) (.str k tk)
    have hf1 := layNew_fits t es ((PySem.strKind P w).hash k) (.str k tk)
    have hr1 := layNew_ris t es ((PySem.strKind P w).hash k) (.str k tk) hr
    have hl1 := layNew_led t es ((PySem.strKind P w).hash k) (.str k tk)
    generalize layNew t es ((PySem.strKind P w).hash k) (.str k tk) = Z at pm hf1 hr1 hl1 ⊢
    obtain ⟨es1, t1, wasDummy, gave⟩ := Z
    dsimp only at pm hf1 hr1 hl1 ⊢
    rw [Array.toList_push] at pm
    have pc : es1.toList.Perm (((PySem.strKind P w).hash k, Value.str k tk) :: es.toList) := pm.trans (List.perm_append_singleton _ _)
    have pk : (es1.toList.map keyS).Perm (k :: es.toList.map keyS) := pc.map keyS
    have g1 : ∀ e ∈ es1.toList, GoodS w e := fun e he => by
      rcases List.mem_cons.mp (pc.mem_iff.mp he) with z | z
      · rw [z]; exact ⟨k, tk, rfl, rfl⟩
      · exact g e z
    have nd1 : (es1.toList.map keyS).Nodup := pk.nodup_iff.mpr (List.nodup_cons.mpr ⟨hnk, nd⟩)
    have m1 : ∀ i, (S i ∨ i = k) ↔ i ∈ es1.toList.map keyS := fun i => by
      rw [hm i, pk.mem_iff, List.mem_cons]
      exact Or.comm
    have hsz : es1.size = n + 1 := by rw [← Array.length_toList, pc.length_eq, List.length_cons, Array.length_toList, hn]
    have hb1 : es1.size < scanBound := by rw [hsz]; exact room
    have hled : w.params.followText "set-order" = true ∨ t1.led = true := hl.imp id fun z => by rw [hl1]; exact z
    have fin : ∀ b h', Heap.SameBut a s.heap h' → SetS w h' a (fun j => S j ∨ j = k) es1.size → Q b { s with heap := h' } := fun b h' sb r => by
      rw [hsz] at r
      exact hQ b h' _ sb (Nat.le_refl _) r
    refine wpAny_bind (hgw _ ?_)
    split
    · refine wpAny_bind ?_
      rw [hashByValue_scannable 8 hsc]
      refine wpAny_pure ?_
      refine setS_tail ?_ ho hex hd g1 nd1 m1 hb1 ?_ ?_ ?_ ?_
      · intro b s₁ Q' q; cases b <;> first | exact wpAny_pure q | exact wpAny_rule q
      · first | (split <;> first | exact hf1 | exact SetTable.fits_plain_off hf1) | exact hf1
      · first | (split <;> exact hr1) | exact hr1
      · first | (split <;> exact hled) | exact hled
      · intro h' sb r; dsimp only; exact wpAny_pure (fin _ h' sb r)
    · refine wpAny_bind (wpAny_pure ?_)
      simp only [↓reduceIte]
      refine setS_tail ?_ ho hex hd g1 nd1 m1 hb1 hf1 hr1 hled ?_
      · intro b s₁ Q' q; cases b <;> first | exact wpAny_pure q | exact wpAny_rule q
      · intro h' sb r; dsimp only; exact wpAny_pure (fin _ h' sb r)
theorem setS_new {h : Heap} (ho : h.get? a = some { cls := .type "set", dict := none, data := .set #[] 0 (.fresh 0 0 (!w.params.followText "set-order")) }) : SetS w h a (fun _ => False) 0 :=
  ⟨_, #[], 0, _, ho, ⟨rfl, rfl, rfl⟩, rfl, (fun e he => by simp at he), (by simp), (fun k => by simp), (by decide), (by rfl), rfl, List.Pairwise.nil, by
    show _ ∨ (!w.params.followText "set-order") = true
    cases w.params.followText "set-order"
    · exact .inr rfl
    · exact .inl rfl⟩
theorem setS_loop {I : Addr} {fp wr : List Addr} {G : Array GenState → Array GenState → Prop} {n : Nat} {Pv : Nat → Value → Prop} {St : Nat → Shared → Prop} {R : Result → Shared → Prop}
    (W : WalksS P w A.in1 I fp wr G n Pv St) (D : Addr) (hSf : D ∉ fp) (zs : List Str) (hn : n = zs.length) (hb : zs.length + 1 < scanBound) (hval : ∀ i v, Pv i v → ∃ k t, zs[i]? = some k ∧ v = .str k t) :
    ∀ (k i : Nat) (s : Shared), n - i = k → i ≤ n → St i s → (∃ c, c ≤ i ∧ SetS w s.heap D (fun j => j ∈ zs.take i) c) →
      (∀ s' c, Moved (D :: wr) G s s' → c ≤ n → SetS w s'.heap D (fun j => j ∈ zs) c → R (.ok (.ret .none)) s') →
      codeAny (model P w) A (.builtin "set.update.loop" ⟨[.ref D, .ref I], []⟩) R s := by
  have hSw : D ∉ wr := fun h => hSf (W.sub _ h)
  have hsub : ∀ b ∈ wr, b ∈ D :: wr := fun b hb => List.mem_cons_of_mem _ hb
  intro k
  induction k with
  | zero =>
    intro i s hk' hi hst ⟨c, hc, hS⟩ hR
    have hin : i = n := by omega
    subst hin
    refine codeAny_builtin F.entry_set_update_loop ?_
    rw [Around.under_plainId F.plain_set_update_loop _]
    show wpAny _ A.in1 (pyNext (.ref I) >>= _) _ _ s
    refine wpAny_bind (W.done s _ _ hst fun s' hm => ?_)
    show wpAny _ A.in1 (ret Value.none) _ _ s'
    have e : zs.take i = zs := List.take_of_length_le (by omega)
    rw [e] at hS
    exact wpAny_pure (hR s' c (hm.mono hsub) hc (hS.at fun o e => hm.heap D o hSw e))
  | succ k ih =>
    intro i s hk' hi hst ⟨c, hc, hS⟩ hR
    have hlt : i < n := by omega
    refine codeAny_builtin F.entry_set_update_loop ?_
    rw [Around.under_plainId F.plain_set_update_loop _]
    show wpAny _ A.in1 (pyNext (.ref I) >>= _) _ _ s
    refine wpAny_bind (W.item i s _ _ hlt hst fun v s' hP hst' hm => ?_)
    obtain ⟨z, t, hz, rfl⟩ := hval i v hP
    have hS' : SetS w s'.heap D (fun j => j ∈ zs.take i) c := hS.at fun o e => hm.heap D o hSw e
    show wpAny _ A.in1 (holding [Value.str z t] (setAdd D (.str z t)) >>= _) _ _ s'
    refine wpAny_bind (wpAny_holding ?_)
    unfold setAdd
    refine wpAny_holding ?_
    refine wpAny_bind ((PySem.strKind P w).pyHash (k := z) (isStr_self _ _) ?_)
    refine setS_add (s := { s' with toks := s'.toks + 1 }) hS' (by omega) fun b h' c3 hsb hc3 hS2 => ?_
    have hS3 : SetS w h' D (fun j => j ∈ zs.take (i + 1)) c3 := hS2.congr fun j => by
      rw [List.take_add_one, hz]
      simp [List.mem_append]
    refine wpAny_pure ⟨plainId_quiet F.plain_set_update_loop _, ih (i + 1) _ (by omega) hlt (W.frame _ s' _ _ hst' (Nat.le_succ _) fun b hb o e => ?_) ⟨_, by omega, hS3⟩ fun s'' c2 hm'' hc'' hS'' => ?_⟩
    · rw [hsb.2 b (fun h : b = D => hSf (by rw [← h]; exact hb))]; exact e
    · refine hR s'' c2 (Moved.trans W.gtrans ((hm.mono hsub).then_heap (Nat.le_succ _) fun b o hb e => ?_) hm'') hc'' hS''
      rw [hsb.2 b (fun h : b = D => hb (by rw [h]; exact List.mem_cons_self))]; exact e
theorem strs_at : ∀ {us : List Value} {zs : List Str}, StrsAre us zs → ∀ (i : Nat) (v : Value), us[i]? = some v → ∃ k t, zs[i]? = some k ∧ v = .str k t
  | _, _, .nil, i, v, h => by simp at h
  | _, _, .cons y t r, 0, v, h => ⟨y, t, rfl, by simpa using h.symm⟩
  | _, _, .cons y t r, i + 1, v, h => strs_at r i v (by simpa using h)
set_option maxHeartbeats 3200000 in
/-- set(xs), xs a list of texts -/
theorem call_set_listS {l : Addr} {items : Array Value} (zs : List Str) {Q : Value → Shared → Prop} (hh : A.handled = none) (hl : s.heap.IsList l items) (hit : StrsAre items.toList zs) (hb : zs.length + 1 < scanBound)
    (h : ∀ (h' : Heap) (tk c : Nat), SetS w h' s.heap.objs.size (fun j => j ∈ zs) c → c ≤ zs.length → (∀ b o, s.heap.get? b = some o → h'.get? b = some o) → Q (.ref s.heap.objs.size) { s with heap := h', toks := tk }) :
    wpAny (model P w) A (call (.type "set") [.ref l]) Q E s := by
  have hisz : items.size = zs.length := by
    have q := StrsAre.length hit
    rw [Array.length_toList] at q
    exact q
  obtain ⟨c, tl, hmro⟩ := F.called_set.mro
  have hmade := F.called_set.made
  have hsub := F.called_set.sub
  refine wpAny_call (codeAny_of_tree ?_)
  show wpAny _ _ (callAny (.type "set") _) _ _ _
  refine wpAny_pure ⟨Code.quiet_builtin _ (by decide +kernel), codeAny_builtin F.entry_type_call ?_⟩
  rw [Around.under_plain (weight_type_call_type "set" [.ref l] []) rfl]
  have h1 := F.called_set.notType
  have h2 := F.called_set.canCreate
  have hct := F.typeCall_set_1 (.ref l)
  repeat (any_goals (first | assumption | wp_step))
  refine codeAny_mono (code_set_led1 (.ref l) (E := E) (Q₁ := fun obj s₁ => obj = .ref s.heap.objs.size ∧ s₁ = { s with heap := s.heap.push { cls := .type "set", dict := none, data := .set #[] 0 (.fresh 0 0 (!w.params.followText "set-order")) } }) ⟨rfl, rfl⟩) fun r s₁ hr => ?_
  cases r with
  | error e => exact hr
  | ok fl =>
    cases fl with
    | ret obj =>
      obtain ⟨rfl, rfl⟩ := hr
      have hS : (s.heap.push { cls := .type "set", dict := none, data := .set #[] 0 (.fresh 0 0 (!w.params.followText "set-order")) }).get? s.heap.objs.size = some { cls := .type "set", dict := none, data := .set #[] 0 (.fresh 0 0 (!w.params.followText "set-order")) } := Heap.get?_push_size _ rfl
      have hT : Shared.TypeIs { s with heap := s.heap.push { cls := .type "set", dict := none, data := .set #[] 0 (.fresh 0 0 (!w.params.followText "set-order")) } } (.ref s.heap.objs.size) "set" := ⟨_, hS, rfl⟩
      have hli := F.called_set.init.lookup
      have hbi := F.called_set.init.bind (.ref s.heap.objs.size)
      repeat (any_goals (first | assumption | wp_step))
      refine codeAny_mono (codeAny_call_builtin (R := wants (fun r s₂ => r = .none ∧ ∃ h' tk c, s₂ = { s with heap := h', toks := tk } ∧ SetS w h' s.heap.objs.size (fun j => j ∈ zs) c ∧ c ≤ zs.length ∧
          (∀ b o, s.heap.get? b = some o → h'.get? b = some o)) E) F.called_set.init.plain F.entry_set_init (check_set_init_1 hT ?_)) fun r₂ s₂ hr₂ => ?_
      · obtain ⟨ol, hol, hcl, nl, hdl⟩ := hl
        obtain ⟨ocls, odict, odata, oslots⟩ := ol
        simp only at hcl hdl
        subst hcl; subst hdl
        have hol' : (s.heap.push { cls := .type "set", dict := none, data := .set #[] 0 (.fresh 0 0 (!w.params.followText "set-order")) }).get? l = some { cls := .type "list", dict := odict, data := .seq items nl, slots := oslots } := Heap.get?_push_of_some _ hol
        have hsls := F.sub_list_set
        have hslf := F.sub_list_frozenset
        have hne : (Value.type "list" == Value.type "dict") = false := by decide
        have hl1 : (s.heap.push { cls := .type "set", dict := none, data := .set #[] 0 (.fresh 0 0 (!w.params.followText "set-order")) }).IsList l items := ⟨_, hol', rfl, nl, rfl⟩
        unfold Builtin.«set.__init__» noKeywords Builtin.Frozenset.updateFrom
        generalize hPI : pyIter = PI
        wp_walk
        subst hPI
        refine wpAny_pyIter_list hl1 ?_
        refine wpAny_bind (wpAny_runValue ?_)
        have hlS : l < s.heap.objs.size := Heap.lt_size hol
        have hh3 : A.in1.in1.in1.handled = none := by simp [hh]
        have hneI : l ≠ (s.heap.push { cls := .type "set", dict := none, data := .set #[] 0 (.fresh 0 0 (!w.params.followText "set-order")) }).objs.size := by
          rw [Heap.size_push]; exact Nat.ne_of_lt (Nat.lt_succ_of_lt hlS)
        have hSf : s.heap.objs.size ∉ [(s.heap.push { cls := .type "set", dict := none, data := .set #[] 0 (.fresh 0 0 (!w.params.followText "set-order")) }).objs.size, l] := by
          rw [Heap.size_push]; simp only [List.mem_cons, List.mem_singleton, List.not_mem_nil, or_false, not_or]
          exact ⟨Nat.ne_of_lt (Nat.lt_succ_self _), Nat.ne_of_gt hlS⟩
        have hval : ∀ (i : Nat) (v : Value), items[i]? = some v → ∃ k t, zs[i]? = some k ∧ v = .str k t := fun i v hv => strs_at hit i v (by rw [Array.getElem?_toList]; exact hv)
        refine setS_loop ((Walks.list hh3 _ l hneI items).toS) s.heap.objs.size
          hSf zs hisz hb hval (items.size - 0) 0 _ (by omega) (Nat.zero_le _)
          ⟨⟨_, Heap.get?_push_size _ rfl, rfl, rfl⟩, (hl1.push _)⟩ ?hS0 ?hR
        case hS0 =>
          exact ⟨0, Nat.le_refl 0, (setS_new (Heap.get?_push_of_some _ hS)).congr fun k => by simp⟩
        case hR =>
          intro s' c' hm hc' hS'
          obtain ⟨h', g2, d', tk', os'⟩ := s'
          have eg : g2 = s.gens := hm.gens
          have ed : d' = s.drawn := hm.drawn
          have eo : os' = s.os := hm.os
          subst eg; subst ed; subst eo
          show wpAny _ _ _ _ _ _
          refine wpAny_pure ?_
          show wpAny _ _ (ret Value.none) _ _ _
          rw [hisz] at hc'
          refine wpAny_pure ⟨rfl, h', tk', c', rfl, hS', hc', fun b o e => ?_⟩
          have hb0 : b < s.heap.objs.size := Heap.lt_size e
          have hb1 : b ≠ s.heap.objs.size := Nat.ne_of_lt hb0
          have hb2 : b ≠ (s.heap.push { cls := .type "set", dict := none, data := .set #[] 0 (.fresh 0 0 (!w.params.followText "set-order")) }).objs.size := by
            rw [Heap.size_push]; exact Nat.ne_of_lt (Nat.lt_succ_of_lt hb0)
          exact hm.heap b o (by simp only [List.mem_cons, List.mem_singleton, List.not_mem_nil, or_false, not_or]; exact ⟨hb1, hb2⟩) (Heap.get?_push_of_some _ (Heap.get?_push_of_some _ e))
      · cases r₂ with
        | error e => exact hr₂
        | ok fl₂ =>
          cases fl₂ with
          | ret r =>
            obtain ⟨rfl, h', tk, c', rfl, hS', hc', hk'⟩ := hr₂
            repeat (any_goals (first | assumption | wp_step))
            exact h _ _ _ hS' hc' hk'
          | _ => exact hr₂.elim
    | _ => exact hr.elim
end
end Bw
end
section
set_option Elab.async false
set_option linter.all false
set_option maxRecDepth 100000
set_option maxHeartbeats 4000000
/-! sorted(set(xs)), xs a list of texts. -/
namespace Bw
open PySem PySem.Spec PyProof.Rows L2
abbrev txs (l : List Str) : List V := l.map V.str
/-- code points, compared -/
def sLt (a b : Str) : Prop := a.cps.toList < b.cps.toList
theorem str_ext {a b : Str} (h : a.cps.toList = b.cps.toList) : a = b := by
  cases a
  cases b
  congr
  exact Array.toList_inj.mp h
theorem rising_all : ∀ (l : List Str) (p : Str), risingS p l = true → (∀ x ∈ l, ¬ x.cps.toList < p.cps.toList) ∧ l.Pairwise fun a b => ¬ b.cps.toList < a.cps.toList
  | [], _, _ => ⟨fun _ h => (List.not_mem_nil h).elim, List.Pairwise.nil⟩
  | x :: r, p, h => by
    unfold risingS at h
    obtain ⟨h1, h2⟩ := Bool.and_eq_true_iff.mp h
    rw [ltCps_eq] at h1
    have h1' : ¬ x.cps.toList < p.cps.toList := by simpa using h1
    obtain ⟨k1, k2⟩ := rising_all r x h2
    refine ⟨fun y hy => ?_, List.pairwise_cons.mpr ⟨k1, k2⟩⟩
    rcases List.mem_cons.mp hy with e | e
    · rw [e]; exact h1'
    · have a1 := List.not_lt.mp h1'
      have a2 := List.not_lt.mp (k1 y e)
      exact List.not_lt.mpr (List.le_trans a1 a2)
theorem strict_of {l : List Str} (h : sortedS l = true) (nd : l.Nodup) : l.Pairwise sLt := by
  have h1 : l.Pairwise fun a b => ¬ b.cps.toList < a.cps.toList := by
    cases l with
    | nil => exact List.Pairwise.nil
    | cons x r => exact List.pairwise_cons.mpr (rising_all r x h)
  refine (h1.and nd).imp fun {a b} ⟨p, q⟩ => ?_
  refine Classical.byContradiction fun z => q (str_ext ?_)
  exact List.le_antisymm (List.not_lt.mp p) (List.not_lt.mp z)
section
variable {P : Program} {w : World} {A : Around} {E : Value → Shared → Prop} {s : Shared} {a : Addr} {S : Str → Prop} {n : Nat}
theorem strs_of : ∀ (l : List Value), (∀ v ∈ l, ∃ k tk, v = Value.str k tk) → StrsAre l (l.map fun v => match v with | .str k _ => k | _ => ⟨#[]⟩)
  | [], _ => .nil
  | v :: l, h => by
    obtain ⟨k, tk, rfl⟩ := h v List.mem_cons_self
    exact .cons k tk (strs_of l fun u hu => h u (List.mem_cons_of_mem _ hu))
theorem sorted_setS {Q : Value → Shared → Prop} (R : SetS w s.heap a S n) (hh : A.handled = none) (hn : n ≤ 1000)
    (hQ : ∀ s' p (out : Array Value) (c : Nat) (zs : List Str), (∀ b o, s.heap.get? b = some o → s'.heap.get? b = some o) → s'.gens = s.gens → s'.os = s.os → s.heap.objs.size ≤ p →
      s'.heap.get? p = some (seqObj "list" out c) → StrsAre out.toList zs → zs.Pairwise sLt → (∀ k, k ∈ zs ↔ S k) → zs.length = n → Q (.ref p) s') :
    wpAny (model P w) A (call (.builtin "sorted") [.ref a]) Q E s := by
  obtain ⟨o, es, ep, t, ho, hex, hd, g, nd, hm, hb, hf, hn', hr, hl⟩ := R
  have b1000 : (1000 : Nat) ≤ sizeLine := by decide
  refine Calls.call_function_entry kind_sorted plain_sorted entry_sorted (args_sorted1 _) ?_
  unfold Builtin.«sorted»
  refine wpAny_bind (m := checkCount "sorted" 1 1 _) (wpAny_pure ?_)
  refine wpAny_bind (collect_set (A := A.in1) hh ⟨o, ho, hex.1, hd⟩ hf hb hr hl fun s1 vs k1 hz g1 o1 pm => ?_)
  have hvl : vs.length = n := by rw [pm.length_eq, List.length_map, Array.length_toList]; exact hn'
  have hI := strs_of vs fun v hv => by
    obtain ⟨e, he, q⟩ := List.mem_map.mp (pm.mem_iff.mp hv)
    obtain ⟨k, tk, h1, _⟩ := g e he
    exact ⟨k, tk, by rw [← q]; exact h1⟩
  have pk : (vs.map fun v => match v with | .str k _ => k | _ => ⟨#[]⟩).Perm (es.toList.map keyS) := by
    have q := pm.map (fun v : Value => match v with | .str k _ => k | _ => (⟨#[]⟩ : Str))
    rw [List.map_map] at q
    exact q
  refine wpAny_bind (wpAny_newList ?_ (by rw [hvl]; omega))
  have hoL : (s1.heap.push (seqObj "list" vs.toArray 0)).get? s1.heap.objs.size = some (seqObj "list" vs.toArray 0) := Heap.get?_push_size _ rfl
  refine wpAny_bind (wpAny_holding (wpAny_call_entry slot_list_sort ⟨_, hoL, rfl⟩ entry_list_sort (list_sort_treeKAny strKind_oneLt hoL hI.keysOf (fun v₁ v₂ rest e => keyKind_strs (by rw [← e]; exact hI)) (by rw [hvl]; omega) fun st' hp hs => ⟨_, rfl, ?_⟩) (args_list_sort _)))
  obtain ⟨zs', a1, a2, a3⟩ := sorted_out_str hI hp hs
  obtain ⟨c, hc⟩ := sortedHeap_at (vs := vs) (out := (arrOf st').map (·.2)) hoL
  have pn : zs'.Perm (es.toList.map keyS) := a2.trans pk
  refine wpAny_pure ⟨_, rfl, hQ _ s1.heap.objs.size _ c zs' (fun b u e => ?_) g1 o1 hz hc a1 (strict_of a3 (pn.nodup_iff.mpr nd)) (fun k => by rw [pn.mem_iff, ← hm k]) ?_⟩
  · have q := k1 b u e
    have hlt := Heap.lt_size q
    show (sortedHeap (s1.heap.push (seqObj "list" vs.toArray 0)) s1.heap.objs.size vs _).get? b = some u
    rw [sortedHeap_old (Nat.ne_of_lt hlt) (by rw [size_push']; exact Nat.lt_succ_of_lt hlt)]
    exact Heap.get?_push_of_some _ q
  · rw [pn.length_eq, List.length_map, Array.length_toList]; exact hn'
end
section
variable {X : Cx}
/-- sorted(set(xs)) -/
def tSortedSet (K : PySem.W.Frag) (t : TE) : TE := fun σ H Q => t σ H fun x H1 => ∃ (a : Addr) (zs : List Str), x = .ref a ∧ SqL K H1 a (txs zs) ∧ zs.length ≤ 1000 ∧
  ∀ (q : Addr) (ys : List Str), H1 q = none → ys.Pairwise sLt → (∀ z, z ∈ ys ↔ z ∈ zs) → Q (.ref q) (upd H1 q (.lst (txs ys)))
theorem pe_sortedSet {e : Expr} {t : TE} {p1 p2 q1 q2 : Pos} (hc : X.calm = true) (h1 : Gl X "sorted") (m1 : X.mg "sorted" = none) (h2 : Gl X "set") (m2 : X.mg "set" = none) (he : PE X e t) (s1 : starEach [.Call (.Name "set" p2) [e] [] q2] X.env = [(false, eval (.Call (.Name "set" p2) [e] [] q2) X.env)] := by rfl) (s2 : starEach [e] X.env = [(false, eval e X.env)] := by rfl) :
    PE X (.Call (.Name "sorted" p1) [.Call (.Name "set" p2) [e] [] q2] [] q1) (tSortedSet X.K t) := by
  refine ⟨fun pins s σ H Q I h => ?_⟩
  have b1000 : (1000 : Nat) + 1 < scanBound := by decide
  have z1000 : (1000 : Nat) ≤ sizeLine := by decide
  refine wpAny_Call_Name_kw (ld_blt (u := .builtin "sorted") I h1 m1 (by decide +kernel) ?_)
  refine PyProof.Rows.callWith_builtin1 ?_ s1 rfl
  rw [s1]
  show wpAny _ _ (spliced ((false, eval (.Call (.Name "set" p2) [e] [] q2) X.env) :: [])) _ _ s
  refine Calls.spliced_cons ?_
  refine wpAny_Call_Name_kw (ld_blt (u := .type "set") I h2 m2 (by decide +kernel) ?_)
  refine PyProof.Rows.callWith_type1 ?_ s2 rfl
  rw [s2]
  show wpAny _ _ (spliced ((false, eval e X.env) :: [])) _ _ s
  refine Calls.spliced_cons (thn (he.run pins s σ H _ I h) fun u t1 ⟨x, H1, I1, r1, a, zs, hx, hsq, hz, q⟩ => Calls.spliced_nil ?_)
  subst hx
  obtain rfl : u = Value.ref a := r1
  obtain ⟨its, rv, hl, _⟩ := I1.list hsq
  refine call_set_listS zs (I1.ok.hd hc) hl.isList rv.strs (by omega) fun h' tk c hS hc' hk => Calls.spliced_nil ?_
  refine sorted_setS (s := { t1 with heap := h', toks := tk }) hS (I1.ok.hd hc) (by omega) fun s' p out c2 ys k g o hp hg hi hs hm hl2 => ?_
  have hp1 : t1.heap.objs.size ≤ p := by
    obtain ⟨o', _, _, _, ho', _⟩ := hS
    exact Nat.le_trans (Nat.le_of_lt (Heap.lt_size ho')) hp
  have hlen : (txs ys).length ≤ sizeLine := by rw [List.length_map, hl2]; omega
  have hn : H1 p = none := I1.hok.fresh hp1
  have kk : ∀ b o, t1.heap.get? b = some o → s'.heap.get? b = some o := fun b o e => k b o (hk b o e)
  have J : Inv X pins σ (upd H1 p (.lst (txs ys))) { t1 with heap := s'.heap, gens := s'.gens, drawn := s'.drawn, toks := s'.toks } :=
    I1.call (ch := []) (Un.laid kk hp1 hn) (I1.hok.laid kk hp1 ⟨hlen, out.toList, c2, vals_of_strs hi, hg⟩) (by rw [g]; exact I1.bare) (fun _ z => nomatch z)
  have e : s' = { t1 with heap := s'.heap, gens := s'.gens, drawn := s'.drawn, toks := s'.toks } := by
    cases s'
    cases t1
    cases o
    rfl
  rw [e]
  exact ⟨.ref p, _, J, rfl, q p ys hn hs hm⟩
end
end Bw
end
section
set_option Elab.async false
set_option linter.all false
set_option maxRecDepth 100000
set_option maxHeartbeats 4000000
/-! Rules whose reading names the written part, with that part given (within a comprehension the reading may not name the block's own context). -/
namespace Bw
open PySem PySem.Spec PyProof.Rows L2
section
variable {X : Cx} {K0 : PySem.W.Frag}
theorem pe_fld_k (hK : X.K = K0) {e : Expr} {ta : TE} {f : Str} {pos : Pos} (he : PE X e ta) (hb : attributeBase e f X.env (eval e X.env) = eval e X.env := by rfl) : PE X (.Attribute e f pos) (tFld K0 ta f) := hK ▸ pe_fld he hb
theorem ix_list_k (hK : X.K = K0) : IxR X (rIxL K0) := hK ▸ ix_list
theorem ix_tup_k (hK : X.K = K0) : IxR X (rIxT K0) := hK ▸ ix_tup
theorem op_in_seq_k (hK : X.K = K0) : OpR X (compareOp .In) (rIn K0 false) := hK ▸ op_in_seq
theorem op_notIn_seq_k (hK : X.K = K0) : OpR X (compareOp .NotIn) (rIn K0 true) := hK ▸ op_notIn_seq
theorem op_eqD_k (hK : X.K = K0) (hu : X.A.units + 64 < cLine) : OpR X (compareOp .Eq) (rEqD K0) := hK ▸ op_eqD hu
theorem op_neD_k (hK : X.K = K0) (hu : X.A.units + 64 < cLine) : OpR X (compareOp .NotEq) (rNeD K0) := hK ▸ op_neD hu
theorem op_inD_k (hK : X.K = K0) (hu : X.A.units + 65 < cLine) : OpR X (compareOp .In) (rInD K0) := hK ▸ op_inD hu
theorem op_notInD_k (hK : X.K = K0) (hu : X.A.units + 65 < cLine) : OpR X (compareOp .NotIn) (rNotInD K0) := hK ▸ op_notInD hu
theorem op_eqNil_k (hK : X.K = K0) (hu : X.A.units + 1 < cLine) : OpR X (compareOp .Eq) (rNil K0 false) := hK ▸ op_eqNil hu
theorem op_neNil_k (hK : X.K = K0) (hu : X.A.units + 1 < cLine) : OpR X (compareOp .NotEq) (rNil K0 true) := hK ▸ op_neNil hu
theorem pi_list_k (hK : X.K = K0) {tg l : Expr} {tl : TE} (hl : PE X l tl) : PI X tg l (iList K0 tl) := hK ▸ pi_list hl
theorem pi_tup_k (hK : X.K = K0) {tg l : Expr} {tl : TE} (hl : PE X l tl) : PI X tg l (iTup K0 tl) := hK ▸ pi_tup hl
theorem pi_enum_k (hK : X.K = K0) {e : Expr} {ta : TA} {p pos tpos : Pos} {elts : List Expr} {kk : Nat} (hg : Gl X "enumerate") (hm : X.mg "enumerate" = none) (ha : PA X [e] ta) (hs : starEach [e] X.env = [(false, eval e X.env)] := by rfl) :
    PI X (.Tuple elts kk tpos) (.Call (.Name "enumerate" p) [e] [] pos) (iEnum K0 ta) := hK ▸ pi_enum hg hm ha hs
theorem cr_all_k (hK : X.K = K0) (hc : X.calm = true) : CallR X (.builtin "all") (rAll K0) := hK ▸ cr_all hc
theorem cr_any_k (hK : X.K = K0) (hc : X.calm = true) : CallR X (.builtin "any") (rAny K0) := hK ▸ cr_any hc
theorem cr_sum_k (hK : X.K = K0) (hc : X.calm = true) : CallR X (.builtin "sum") (rSum K0) := hK ▸ cr_sum hc
theorem cr_max_k (hK : X.K = K0) (hc : X.calm = true) : CallR X (.builtin "max") (rMax K0) := hK ▸ cr_max hc
theorem cr_min_k (hK : X.K = K0) (hc : X.calm = true) : CallR X (.builtin "min") (rMin K0) := hK ▸ cr_min hc
theorem cr_minG_k (hK : X.K = K0) (hc : X.calm = true) (hu : X.A.units + 64 < cLine) : CallR X (.builtin "min") (rMinG K0) := hK ▸ cr_minG hc hu
theorem cr_sortedG_k (hK : X.K = K0) (hu : X.A.units + 64 < cLine) : CallR X (.builtin "sorted") (rSortedG K0) := hK ▸ cr_sortedG hu
theorem cr_sortedI_k (hK : X.K = K0) : CallR X (.builtin "sorted") (rSortedI K0) := hK ▸ cr_sortedI
theorem cr_maxD_k (hK : X.K = K0) (hc : X.calm = true) (hu : X.A.units + 64 < cLine) : CallRK X (.builtin "max") ["default"] (rMaxD K0) := hK ▸ cr_maxD hc hu
def rLenQ (K : PySem.W.Frag) : List V → Hp → VK → Prop := fun xs H Q => ∃ p ys, xs = [.ref p] ∧ (SqL K H p ys ∨ SqT K H p ys) ∧ Q (.int ys.length) H
theorem call_len_seq_k (hK : X.K = K0) : CallR X (.builtin "len") (rLenQ K0) := hK ▸ call_len_seq
def rListQ (K : PySem.W.Frag) : List V → Hp → VK → Prop := fun xs H Q => ∃ p ys, xs = [.ref p] ∧ (SqL K H p ys ∨ SqT K H p ys) ∧ ∀ l, H l = none → Q (.ref l) (upd H l (.lst ys))
theorem call_list_of_k (hK : X.K = K0) : CallR X (.type "list") (rListQ K0) := hK ▸ call_list_of
theorem call_isi_k (hK : X.K = K0) : CallR X (.builtin "isinstance") (rIsi K0) := hK ▸ call_isi
theorem call_isiT_k (hK : X.K = K0) : CallR X (.builtin "isinstance") (rIsiT K0) := hK ▸ call_isiT
theorem sl_list_k (hK : X.K = K0) : SlR X (rSlL K0) := hK ▸ sl_list
theorem get_list_k (hK : X.K = K0) : PGet X (rIxL K0) := hK ▸ get_list
theorem pg_tup_k (hK : X.K = K0) {es : List Expr} {k n : Nat} {t : TGs} {pos : Pos} (hc : X.calm = true) (h : PGs X es t) (hn : (assignEach es X.env).length = n := by rfl) (hst : (assignEach es X.env).findIdx? (·.1) = none := by rfl) : PG X (.Tuple es k pos) (gTup K0 n t) := hK ▸ pg_tup hc h hn hst
theorem pe_sortedSet_k (hK : X.K = K0) {e : Expr} {t : TE} {p1 p2 q1 q2 : Pos} (hc : X.calm = true) (h1 : Gl X "sorted") (m1 : X.mg "sorted" = none) (h2 : Gl X "set") (m2 : X.mg "set" = none) (he : PE X e t)
    (s1 : starEach [.Call (.Name "set" p2) [e] [] q2] X.env = [(false, eval (.Call (.Name "set" p2) [e] [] q2) X.env)] := by rfl) (s2 : starEach [e] X.env = [(false, eval e X.env)] := by rfl) :
    PE X (.Call (.Name "sorted" p1) [.Call (.Name "set" p2) [e] [] q2] [] q1) (tSortedSet K0 t) := hK ▸ pe_sortedSet hc h1 m1 h2 m2 he s1 s2
theorem ps_fld_k (hK : X.K = K0) {o value : Expr} {f : Str} {pos pos' : Pos} {ta tv : TE} (ha : PE X o ta) (hv : PE X value tv) (hs : swapsWith value (some (.Attribute o f pos')) pos.line X.env = pure false) : PS X (.Assign [.Attribute o f pos'] value pos) (sFld K0 ta tv f) := hK ▸ ps_fld ha hv hs
theorem pg_fld_k (hK : X.K = K0) {o : Expr} {f : Str} {pos : Pos} {to : TE} (ho : PE X o to) : PG X (.Attribute o f pos) (gFld K0 f to) := hK ▸ pg_fld ho
theorem pa_star_k (hK : X.K = K0) {e : Expr} {es : List Expr} {te : TE} {t : TA} {p : Pos} (he : PE X e te) (hr : PA X es t) (hs : starEach (.Starred e p :: es) X.env = (true, eval e X.env) :: starEach es X.env := by rfl) : PA X (.Starred e p :: es) (StX.tStar K0 te t) := hK ▸ StX.pa_star he hr hs
end
section
variable {X : Cx} {K0 : PySem.W.Frag}
def tTruthQ (K : PySem.W.Frag) (te : TE) : TT := fun σ H Q => te σ H fun x H' => ∃ k, TruV K x H' k ∧ Q k H'
theorem pt_truth_k (hK : X.K = K0) {e : Expr} {te : TE} (he : PE X e te) (h : ∀ whole, isTrue e X.env whole = (do let v ← whole; standAt e.pos; holding [v] (truthy v))) : PT X e (tTruthQ K0 te) := hK ▸ pt_truth he h
end
section
variable {X : Cx} {K0 : PySem.W.Frag} {o e : Expr} {es : List Expr} {to : TE} {t : TA} {name : Str} {apos cpos : Pos} {T id : String} {r : V → List V → Hp → VK → Prop}
theorem pe_bm0_k (hK : X.K = K0) (pa : PlainAttrs T) (slot : Slot T name id) (hty : typeOf (.builtin id) = pure (.type "method_descriptor")) (hm : MtR X id r) (ho : PE X o to)
    (hbase : attributeBase o name X.env (eval o X.env) = eval o X.env := by rfl) (hline : (apos.endLine == cpos.line) = true := by rfl) : PE X (.Call (.Attribute o name apos) [] [] cpos) (tBM0 K0 T r to) := hK ▸ pe_bm0 pa slot hty hm ho hbase hline
theorem pe_bm_k (hK : X.K = K0) (pa : PlainAttrs T) (slot : Slot T name id) (hty : typeOf (.builtin id) = pure (.type "method_descriptor")) (hm : MtR X id r) (ho : PE X o to) (ha : PA X (e :: es) t)
    (hbase : attributeBase o name X.env (eval o X.env) = eval o X.env := by rfl)
    (hfew : ((backTo cpos (starEach (e :: es) X.env)).all (fun x => !x.1) && (backToKw cpos (keywordEach [] X.env)).all (fun x => x.1.isSome)
      && decide ((e :: es).length + ([] : List Keyword).length + (if ([] : List Keyword).isEmpty then 0 else 1) < 30)) = true := by rfl)
    (hline : (apos.endLine == cpos.line) = true := by rfl) (hs : starEach (e :: es) X.env = (false, eval e X.env) :: starEach es X.env := by rfl) (hplain : (backTo cpos (starEach es X.env)).any (·.1) = false := by rfl) :
    PE X (.Call (.Attribute o name apos) (e :: es) [] cpos) (tBM K0 T r to t) := hK ▸ pe_bm pa slot hty hm ho ha hbase hfew hline hs hplain
end
end Bw
end
section
set_option Elab.async false
set_option linter.all false
set_option maxRecDepth 100000
set_option maxHeartbeats 4000000
/-! name = {k: v for ..} on one line, the name a local. -/
namespace Bw
open PySem PySem.Spec PyProof.Rows L2
section
variable {X : Cx}
theorem sw_dict {kx vx : Expr} {gs : List Comprehension} {scope : Scope} {pos py : Pos} {y : Str} {l : Nat} {env : Env} (hk : env.scope.kind = .function) (hy : env.scope.names.lookup y = some .local) (hl : (py.line == pos.line) = true)
    (ha : (scope.names.any fun (n, k) => n == y && (k == .local || k == .cell)) = false) : swapsWith (.DictComp kx vx gs scope pos) (some (.Name y py)) l env = pure true := by
  have h1 : env.kindOf y = some .local := hy
  have h2 : env.blockKind = .function := by
    unfold Env.blockKind
    rw [hk]
    rfl
  unfold swapsWith
  simp only [h2, h1, ha, Expr.pos, hl]
  rfl
theorem ps_setDc {i : Nat} {y : Str} {py : Pos} {kx vx tg iter : Expr} {ifs : List Expr} {scope : Scope} {own : List (Str × Nat)} {pos spos : Pos} {wi : TI} {g : TG} {tt : TT} {tk tv : TE} (hc : X.calm = true) (hN : X.N.Nodup) (hy : X.N[i]? = some y) (hyl : X.env.scope.names.lookup y = some .local)
    (hsw : swapsWith (.DictComp kx vx [⟨tg, iter, ifs, 0⟩] scope pos) (some (.Name y py)) spos.line X.env = pure true) (hi : PI X tg iter wi) (ok : BlkOk X.N X.env.scope scope own)
    (hg : ∀ (s : Shared) (H : Hp) (C : Addr) (cl : List (Str × Addr)) (fp : List Addr), PG (X.blk s H scope (compEnvC scope cl C X.env) fp) tg g)
    (ht : ∀ (s : Shared) (H : Hp) (C : Addr) (cl : List (Str × Addr)) (fp : List Addr), PTs (X.blk s H scope (compEnvC scope cl C X.env) fp) ifs tt)
    (hk : ∀ (s : Shared) (H : Hp) (C : Addr) (cl : List (Str × Addr)) (fp : List Addr), PE (X.blk s H scope (compEnvC scope cl C X.env) fp) kx tk)
    (he : ∀ (s : Shared) (H : Hp) (C : Addr) (cl : List (Str × Addr)) (fp : List Addr), PE (X.blk s H scope (compEnvC scope cl C X.env) fp) vx tv) (hs : ∀ x, foldedSetIterable iter X.env x = pure x := by intro _; rfl) :
    PS X (.Assign [.Name y py] (.DictComp kx vx [⟨tg, iter, ifs, 0⟩] scope pos) spos) (tAsg (tDc wi g tt tk tv (own.map (·.2))) (gName i)) := by
  refine ⟨fun pins s σ H D I h => ?_⟩
  rw [exec_Assign_Name_used _ _ _ _ hsw]
  refine wpAny_bind (wpAny_standAt (wpAny_bind ?_))
  show wpAny _ X.A (do let _ ← comprehension (.DictComp kx vx [⟨tg, iter, ifs, 0⟩] scope pos) scope X.env (firstIterPos [⟨tg, iter, ifs, 0⟩] pos) newDict false (eval iter X.env) (some (assign (.Name y py) X.env))) _ _ s
  have h' : tDc wi g tt tk tv (own.map (·.2)) σ H (fun x H1 => gName i x σ H1 D.nx) := h
  have core := dc_core (Qf := fun _ s' => SP X pins D .next s') (use := some (assign (.Name y py) X.env)) (pos := pos) (pos' := firstIterPos [⟨tg, iter, ifs, 0⟩] pos) hc hN I hi ok hg ht hk he hs h' fun L C s' m H' I' q hn f => ?_
  · exact wpAny_bind (thn core fun _ s' hq => wpAny_pure (wpAny_pure hq))
  · show wpAny _ _ (assign (.Name y py) X.env (.ref L)) _ _ _
    obtain ⟨f0, f1, f2, f3, f4, f5⟩ := f
    refine wpAny_assign_Name (store_ok2 (v := V.ref L) I' hN hy (.inl hyl) rfl (fun s2 I2 ⟨b, sb, hb⟩ => ⟨m, hn.sameBut sb (hb.elim (fun z => by rw [z]; exact f1) fun z e => f4 y b z e.symm), fun h3 sb3 => ?_⟩) (.inr hyl))
    exact ⟨_, H', I2.turned (t' := s2.toks) (fun b o hb e => (sb3.2 b hb).trans e) f0 f1 f3 f4 f5, q⟩
end
end Bw
end
section
set_option Elab.async false
set_option linter.all false
set_option maxRecDepth 100000
set_option maxHeartbeats 4000000
/-! Dicts whose keys are tuples: setdefault, comprehensions, items; a dict kept as it is. -/
namespace Bw
open PySem PySem.Spec PyProof.Rows L2
section
variable {X : Cx} {pins : List (Addr × Obj)} {σ : L2.St} {H : Hp} {s : Shared} {a : Addr} {u r : Value} {d : V} {A : Around} {E : Value → Shared → Prop}
/-- e, a dict that nobody writes at any more -/
def tFrz (t : TE) : TE := fun σ H Q => t σ H fun v H1 => ∃ d kvs, v = .ref d ∧ H1 d = some (.dT kvs) ∧ ∀ od, Q v (upd H1 d (.frz od (.dT kvs)))
theorem pe_frz {e : Expr} {t : TE} (h : PE X e t) : PE X e (tFrz t) := by
  refine ⟨fun pins s σ H Q I hw => thn (h.run pins s σ H _ I hw) fun u s1 ⟨v, H1, I1, r1, d, kvs, ev, hd, q⟩ => ?_⟩
  obtain ⟨od, I2⟩ := I1.lock hd True.intro
  exact ⟨v, _, I2, r1, q od⟩
theorem d_setdT {kvs : List (List Key × V)} {k : List Key} {b : Addr} {Q : Value → Shared → Prop} (hu : A.units + 1 < cLine) (I : Inv X pins σ H s) (e : H a = some (.dT kvs)) (eb : H b = some (.tup (k.map kV))) (rd : RelV d r) (hl : kvs.length < sizeLine)
    (h1 : ∀ v, valV kvs k = some v → ∀ (w' : Value) (s' : Shared), Inv X pins σ H s' → RelV v w' → Q w' s') (h2 : valV kvs k = none → ∀ (w' : Value) (s' : Shared), Inv X pins σ (upd H a (.dT (putK kvs k d))) s' → RelV d w' → Q w' s') :
    wpAny (model X.prog X.w) A (call (.builtin "dict.setdefault") [.ref a, .ref b, r]) Q E s := by
  obtain ⟨z, hd, xs, rel, dd⟩ := dt_of I.hok e
  have hz : xs.length ≤ sizeLine := by rw [← Paired.length rel]; exact z
  have hl2 : (putK kvs k d).length ≤ sizeLine := by have := length_putK kvs k d; omega
  have rv := rel.val k
  refine call_setdefault_heap (hsz := hz) (tupleKind_room_in1 hu) (key_of I.hok eb) hd dd (fun p hp => ?_) fun hn h' dd' hs => ?_
  · rw [hp] at rv
    cases q0 : valV kvs k with
    | none =>
      rw [q0] at rv
      exact (show False from rv).elim
    | some v0 =>
      rw [q0] at rv
      exact h1 v0 q0 _ _ (I.tok _) rv
  · rw [hn] at rv
    cases q0 : valV kvs k with
    | some v0 =>
      rw [q0] at rv
      exact (show False from rv).elim
    | none =>
      obtain ⟨q, es, ep, hq, g2, g3, g4, _, g5⟩ := dd'
      refine h2 q0 _ _ (d_write I (by rw [e]; exact True.intro) hs ⟨q, hq⟩ ⟨hl2, hd, _, (rel.put k eb rd).keeps fun c ys ec => ?_, q, es, ep, hq, g2, g3, g4, g5⟩) rd
      rw [upd_ne (ne_of ec e (fun z => nomatch z))]
      exact ec
/-- d.setdefault(y, z), y a tuple -/
def tDSetT (td ty tx : TE) : TE := fun σ H Q => td σ H fun x H1 => ∃ a, x = .ref a ∧ IsD H1 a ∧ ty σ H1 fun y H2 => tx σ H2 fun z H3 => ∃ (kvs : List (List Key × V)) (k : List Key) (b : Addr), H3 a = some (.dT kvs) ∧ y = .ref b ∧ H3 b = some (.tup (k.map kV)) ∧ kvs.length < sizeLine ∧
  (∀ v, valV kvs k = some v → Q v H3) ∧ (valV kvs k = none → Q z (upd H3 a (.dT (putK kvs k z))))
theorem pe_dsetT {o e f : Expr} {td ty tx : TE} {apos cpos : Pos} (hu : X.A.units + 1 < cLine) (ho : PE X o td) (he : PE X e ty) (hf : PE X f tx) (m : M2 X o "setdefault" apos e f cpos) : PE X (.Call (.Attribute o "setdefault" apos) [e, f] [] cpos) (tDSetT td ty tx) := by
  refine ⟨fun pins s σ H Q I h => ?_⟩
  refine wpAny_Call_method m.base m.few m.line PySem.F.plainAttrs_dict PySem.F.slot_dict_setdefault PySem.F.type_dict_setdefault (thn (ho.run pins s σ H _ I h) fun u s1 ⟨x, H1, I1, rx, a, ex, d, q1⟩ => ?_)
  subst ex
  obtain rfl : u = Value.ref a := rx
  obtain ⟨t1, t2, _⟩ := isD_at I1 d
  refine ⟨t1, t2, ?_⟩
  rw [m.trees]
  refine Calls.callWith_builtin rfl (Calls.evalArgs_plain (Calls.spliced_cons (thn (he.run pins s1 σ H1 _ I1 q1) fun iv s2 ⟨y, H2, I2, ry, q2⟩ =>
    Calls.spliced_cons (thn (hf.run pins s2 σ H2 _ I2 q2) fun fv s3 ⟨z, H3, I3, rz, kvs, k, b, ea, ey, eb, hl, q3, q4⟩ => Calls.spliced_nil ?_))))
  subst ey
  obtain rfl : iv = Value.ref b := ry
  exact d_setdT hu I3 ea eb rz hl (fun v hv w' s4 I4 rw' => ⟨v, _, I4, rw', q3 v hv⟩) fun hn w' s4 I4 rw' => ⟨z, _, I4, rw', q4 hn⟩
/-! ### comprehensions -/
theorem d_dictSetT {D : Addr} {kvs : List (List Key × V)} {k : List Key} {b : Addr} {v : V} {Q : Unit → Shared → Prop} (hu : X.A.units + 1 < cLine) (I : Inv X pins σ H s) (hD : H D = some (.dT kvs)) (hz : kvs.length < sizeLine) (eb : H b = some (.tup (k.map kV))) (rv : RelV v r)
    (h : ∀ s', Inv X pins σ (upd H D (.dT (putK kvs k v))) s' → Q () s') : wpAny (model X.prog X.w) X.A (dictSet D (.ref b) r) Q E s := by
  obtain ⟨z, hd, xs, rel, dd⟩ := dt_of I.hok hD
  have hzv : xs.length ≤ sizeLine := by rw [← Paired.length rel]; exact z
  have hl : (putK kvs k v).length ≤ sizeLine := by have := length_putK kvs k v; omega
  refine wpAny_dictSet_heap (hsz := hzv) (Nat.lt_of_succ_lt hu) (key_of I.hok eb) dd fun h' dd' hs => h _ ?_
  obtain ⟨q, es, ep, hq, g2, g3, g4, _, g5⟩ := dd'
  refine d_write I (by rw [hD]; exact True.intro) hs ⟨q, hq⟩ ⟨hl, hd, _, (rel.put k eb rv).keeps fun c ys ec => ?_, q, es, ep, hq, g2, g3, g4, g5⟩
  rw [upd_ne (ne_of ec hD (fun z => nomatch z))]
  exact ec
/-- {k: v for target in iter if ..}, keys tuples: D the new dict -/
def tDcT (wi : TI) (g : TG) (tt : TT) (tk tv : TE) (vs : List Nat) : TE := fun σ H Q => wi σ H fun J H1 => ∀ D, H1 D = none → ∃ W : Nat → Nat → Hp → Prop, (∃ m, W 0 m (upd H1 D (.dT []))) ∧ ∀ i m H, W i m H →
  (J.stop i H ∧ Q (.ref D) H) ∨ (J.go i H ∧ ∃ Nx : Hp → Prop, (∀ H', Nx H' → ∃ m', m' < m ∧ W (i + 1) m' H') ∧ ∀ x H', J.yld i H x H' → g x (wipe σ vs) H' fun σ2 H2 => wipe σ2 vs = wipe σ vs ∧ tt σ2 H2 fun b H3 =>
    if b = true then tk σ2 H3 fun y H4 => tv σ2 H4 fun z H5 => ∃ kvs k b, y = .ref b ∧ H5 b = some (.tup (k.map kV)) ∧ H5 D = some (.dT kvs) ∧ kvs.length < sizeLine ∧ Nx (upd H5 D (.dT (putK kvs k z))) else Nx H3)
theorem pe_dcT {kx vx tg iter : Expr} {ifs : List Expr} {scope : Scope} {own : List (Str × Nat)} {pos : Pos} {wi : TI} {g : TG} {tt : TT} {tk tv : TE} (hu : X.A.units + 1 < cLine) (hc : X.calm = true) (hN : X.N.Nodup) (hi : PI X tg iter wi) (ok : BlkOk X.N X.env.scope scope own)
    (hg : ∀ (s : Shared) (H : Hp) (C : Addr) (cl : List (Str × Addr)) (fp : List Addr), PG (X.blk s H scope (compEnvC scope cl C X.env) fp) tg g) (ht : ∀ (s : Shared) (H : Hp) (C : Addr) (cl : List (Str × Addr)) (fp : List Addr), PTs (X.blk s H scope (compEnvC scope cl C X.env) fp) ifs tt)
    (hk : ∀ (s : Shared) (H : Hp) (C : Addr) (cl : List (Str × Addr)) (fp : List Addr), PE (X.blk s H scope (compEnvC scope cl C X.env) fp) kx tk)
    (he : ∀ (s : Shared) (H : Hp) (C : Addr) (cl : List (Str × Addr)) (fp : List Addr), PE (X.blk s H scope (compEnvC scope cl C X.env) fp) vx tv) (hs : ∀ x, foldedSetIterable iter X.env x = pure x := by intro _; rfl) :
    PE X (.DictComp kx vx [⟨tg, iter, ifs, 0⟩] scope pos) (tDcT wi g tt tk tv (own.map (·.2))) := by
  refine ⟨fun pins s σ H Q I h => ?_⟩
  rw [arm_eval_DictComp]
  have hfree : ∀ y ∈ scope.names, y.2 = .free → ∃ c, X.env.cells.lookup y.1 = some c := fun y hy e => by
    rcases ok.free y hy e with k | k
    · exact I.ok.has _ (.inl k)
    · exact I.ok.has _ (.inr k)
  refine wpAny_comprehension_free rfl hs (closure_ok hfree) ok.kind (fun y hy e => by rw [ok.uniq y hy, e])
    (thn (hi.run pins s σ H _ I h) fun xv s1 hx => thn hx fun itv s2 h2 => ?_)
  obtain ⟨it, fp, tn, J, H2, e, I2, T, st2, f2, q⟩ := h2
  subst e
  refine wpAny_newObj_type (newEnv_comp ?_)
  generalize hD : s2.heap.objs.size = D
  have hDn : H2 D = none := I2.hok.fresh (Nat.le_of_eq hD)
  obtain ⟨W, ⟨m0, w0⟩, turn⟩ := q D hDn
  generalize hs3 : ({ s2 with heap := s2.heap.push { cls := .type "dict", data := .dict #[] } } : Shared) = s3
  have I3 : Inv X pins σ (upd H2 D (.dT [])) s3 := by
    rw [← hs3]
    refine I2.laid (t' := s2.toks) (fun b o e => Heap.get?_push_of_some _ e) (Nat.le_of_eq hD) ?_
    rw [← hD]
    exact dt_empty s2.heap I2.big
  have h3 : s3.heap = s2.heap.push { cls := .type "dict", data := .dict #[] } := by rw [← hs3]
  have sz : ∀ b ∈ fp, b < s2.heap.objs.size := fun b hb => by
    obtain ⟨o, e, _⟩ := T.obj _ _ st2 b hb
    exact Heap.lt_size e
  have f3 : ∀ b ∈ fp, FpOk X pins (upd H2 D (.dT [])) b ∧ b < s3.heap.objs.size := fun b hb => by
    have hlt := sz b hb
    refine ⟨⟨?_, (f2 b hb).2⟩, by rw [h3, Heap.size_push]; exact Nat.lt_succ_of_lt hlt⟩
    rw [upd_ne (by rw [← hD]; exact Nat.ne_of_lt hlt)]
    exact (f2 b hb).1
  have st3 : tn 0 s3.heap := T.keep _ _ _ st2 fun b _ o e => by rw [h3]; exact Heap.get?_push_of_some _ e
  have I4 := block_start I3 ok hN f3
  have pg := hg s3 (upd H2 D (.dT [])) s3.heap.objs.size (cellsFrom (s3.heap.objs.size + 1) scope.names (cloFrom X.env.cells scope.names [])) fp
  have pt := ht s3 (upd H2 D (.dT [])) s3.heap.objs.size (cellsFrom (s3.heap.objs.size + 1) scope.names (cloFrom X.env.cells scope.names [])) fp
  have pk := hk s3 (upd H2 D (.dT [])) s3.heap.objs.size (cellsFrom (s3.heap.objs.size + 1) scope.names (cloFrom X.env.cells scope.names [])) fp
  have pe := he s3 (upd H2 D (.dT [])) s3.heap.objs.size (cellsFrom (s3.heap.objs.size + 1) scope.names (cloFrom X.env.cells scope.names [])) fp
  show codeAny _ _ (.compStart (.DictComp kx vx [⟨tg, iter, ifs, 0⟩] scope pos) 0 (.ref it) (.ref D) (compEnvC scope (cellsFrom (s3.heap.objs.size + 1) scope.names (cloFrom X.env.cells scope.names [])) s3.heap.objs.size X.env)) (compPost (model X.prog X.w) X.A X.xe _ _ (.ref D) s3.heap.objs.size) { s3 with heap := pushCells (s3.heap.push { cls := .type "dict", data := .dict #[] }) scope.names }
  have nfp : ∀ b ∈ fp, (upd H2 D (.dT [])) b = none := fun b hb => (f3 b hb).1.1
  generalize hce : compEnvC scope (cellsFrom (s3.heap.objs.size + 1) scope.names (cloFrom X.env.cells scope.names [])) s3.heap.objs.size X.env = ce at I4 pg pt pk pe ⊢
  have cL : ce.locals = s3.heap.objs.size := by subst hce; rfl
  generalize hH3 : upd H2 D (.dT []) = H3 at I3 I4 pg pt pk pe w0 nfp f3
  generalize hs4 : ({ s3 with heap := pushCells (s3.heap.push { cls := .type "dict", data := .dict #[] }) scope.names } : Shared) = s4 at I4 ⊢
  have st4 : tn 0 s4.heap := T.keep _ _ _ st3 fun b _ o e => by rw [← hs4]; exact pushCells_keeps _ _ _ _ (Heap.get?_push_of_some _ e)
  have stat : ∀ {σ' : L2.St} {H' : Hp} {s' : Shared}, Inv (X.blk s3 H3 scope ce fp) [] σ' H' s' → (∀ b ∈ fp, H' b = none) → ∀ b ∈ fp, FpOk (X.blk s3 H3 scope ce fp) [] H' b := fun {σ' H' s'} I' hn b hb =>
    ⟨hn b hb, (I'.ok.exf b hb).1, I'.ok.exfs b hb, .inl hb, fun x c e => (I'.ok.exf b hb).2 x c e, fun p hp => absurd (show p ∈ ([] : List (Addr × Obj)) ++ [] from hp) (by simp)⟩
  have loop : codeAny (model X.prog X.w) X.A (.compLoop (.DictComp kx vx [⟨tg, iter, ifs, 0⟩] scope pos) 0 (.ref it) (.ref D) ce) (compPost (model X.prog X.w) X.A X.xe none (EP X pins σ Q) (.ref D) s3.heap.objs.size) s4 := by
    refine compLoop_anyD (fun n s' => ∃ i H', Inv (X.blk s3 H3 scope ce fp) [] (wipe σ (own.map (·.2))) H' s' ∧ tn i s'.heap ∧ (∀ b ∈ fp, H' b = none) ∧ W i n H') ?_ m0 ⟨0, H3, I4, st4, nfp, w0⟩
    rintro n s5 ⟨i, H5, I5, st5, n5, w5⟩
    rcases turn i n H5 w5 with ⟨stop, qq⟩ | ⟨go, Nx, hNx, step⟩
    · have td := T.done (X.blk s3 H3 scope ce fp) rfl rfl rfl hc i [] s5 _ H5 (fun _ _ => False) I5 (stat I5 n5) st5 stop
      refine thnF td fun r s6 ⟨hr, I6⟩ => ?_
      subst hr
      have I7 : Inv X pins σ H5 s6 := I3.call' (ch := fp) I6.os I6.base I6.hok I6.bare fun b hb => ⟨(f3 b hb).1.2.2.2.1, (f3 b hb).1.2.1, (f3 b hb).1.2.2.2.2.1, (f3 b hb).1.2.2.2.2.2⟩
      have nC : H5 s3.heap.objs.size = none := by
        have z : H5 ce.locals = none := I6.free
        rw [cL] at z
        exact z
      obtain ⟨m, hn, _⟩ := I6.loc
      have hn : s6.heap.Ns ce.locals m := hn
      rw [cL] at hn
      refine ⟨m, hn, fun h'' sb => ?_⟩
      obtain ⟨f0, f1, f2, f3', f4, f5⟩ := I3.fpOk (Nat.le_refl _) nC
      exact ⟨.ref D, H5, I7.turned (t' := s6.toks) (fun b o hb e => (sb.2 b hb).trans e) f0 f1 f3' f4 f5, rfl, qq⟩
    · have ti := T.item (X.blk s3 H3 scope ce fp) rfl rfl rfl hc i [] s5 _ H5 (fun _ _ => False) I5 (stat I5 n5) st5 go
      refine thnF ti fun r s6 ⟨u, hr, h6⟩ => ?_
      subst hr
      refine thnF h6 fun _ s7 ⟨x, H7, I7, r7, y7, st7, n7⟩ => ?_
      have I7' := I7.pinned (stat I7 n7) (T.obj _ _ st7)
      refine thnF (pg.run _ s7 _ H7 x u _ I7' r7 (step x H7 y7)) fun _ s8 ⟨σ8, H8, I8, hw8, q8⟩ => ?_
      refine thnF (pt.run _ s8 σ8 H8 _ I8 q8) fun b s9 ⟨H9, I9, q9⟩ => ?_
      have fin : ∀ {s' : Shared} {H' : Hp}, Inv (X.blk s3 H3 scope ce fp) ([] ++ pinsAt fp s7.heap) σ8 H' s' → Nx H' → ∃ m, m < n ∧ ∃ i H', Inv (X.blk s3 H3 scope ce fp) [] (wipe σ (own.map (·.2))) H' s' ∧ tn i s'.heap ∧ (∀ b ∈ fp, H' b = none) ∧ W i m H' := fun {s' H'} I' nx => by
        obtain ⟨m', hm, w'⟩ := hNx H' nx
        have pin' : ∀ b ∈ fp, ∀ o, s7.heap.get? b = some o → s'.heap.get? b = some o ∧ H' b = none := fun b hb o e =>
          let z := I'.pin (b, o) (List.mem_append_right _ (List.mem_append_right _ (mem_pinsAt hb e)))
          ⟨z.1, z.2.1⟩
        have hl : (wipe σ (own.map (·.2))).length = σ8.length := by rw [← hw8, wipe_length]
        refine ⟨m', hm, i + 1, H', (I'.unpinned (pins := [])).weak hl (fun j v e => ?_), T.keep _ _ _ st7 fun b hb o e => (pin' b hb o e).1, fun b hb => ?_, w'⟩
        · rw [← hw8] at e
          exact (wipe_some e).1
        · obtain ⟨o, e, _⟩ := T.obj _ _ st7 b hb
          exact (pin' b hb o e).2
      cases b with
      | false =>
        simp only [Bool.false_eq_true, if_false] at q9 ⊢
        exact fin I9 q9
      | true =>
        simp only [if_true] at q9 ⊢
        refine thnF (pk.run _ s9 σ8 H9 _ I9 q9) fun z s10 ⟨yk, H10, I10, r10, q10⟩ => ?_
        refine thnF (pe.run _ s10 σ8 H10 _ I10 q10) fun z2 s11 ⟨yv, H11, I11, r11, kvs, k, b, ek, eb, hD11, hz11, nx⟩ => ?_
        subst ek
        obtain rfl : z = Value.ref b := r10
        exact d_dictSetT (X := X.blk s3 H3 scope ce fp) hu I11 hD11 hz11 eb r11 fun s12 I12 => fin I12 nx
  exact codeAny_compStart_dict loop (T.self X.A 0 _ _ _ st4 loop)
end
end Bw
end
section
set_option Elab.async false
set_option linter.all false
set_option maxRecDepth 100000
set_option maxHeartbeats 4000000
/-! Walking the items of a dict whose keys are tuples; sorted(d). -/
namespace Bw
open PySem PySem.Spec PyProof.Rows L2
section
variable {X : Cx} {pins : List (Addr × Obj)} {σ : L2.St} {H : Hp} {s : Shared} {d : Addr} {o : Obj}
theorem frzT2 {kvs : List (List Key × V)} (I : Inv X pins σ H s) (h : H d = some (.frz o (.dT kvs))) :
    (d == sysModules) = false ∧ s.heap.get? d = some o ∧ o.ExactDict ∧ ∃ (es : Array DictEntry) (ep : Nat), o.data = .dict es ep ∧ es.size = kvs.length ∧
      ∀ (i : Nat) (k : List Key) (v : V), kvs[i]? = some (k, v) → ∃ (en : DictEntry) (q : Addr), es[i]? = some en ∧ en.key = .ref q ∧ RelV v en.val ∧ H q = some (.tup (k.map kV)) := by
  obtain ⟨hd, z, hs, xs, pr, o', es, ep, ho, hx, hdt, he, _⟩ := I.hok d _ h
  rw [hd] at ho
  cases ho
  refine ⟨hs, hd, hx, es, ep, hdt, ?_, fun i k v e => ?_⟩
  · have l1 : es.size = xs.length := size_of_entries he
    have l2 : kvs.length = xs.length := Paired.length pr
    omega
  · obtain ⟨b, hb, e1, e2, e3⟩ := L2.paired_get pr e
    have q := entry_at he i
    rw [hb] at q
    exact ⟨_, b.2.1, q, rfl, e3, e2⟩
/-- the pairs of a dict whose keys are tuples, each a new tuple -/
def ItT (d : Addr) (o : Obj) (kvs : List (List Key × V)) : It :=
  ⟨fun i H => H d = some (.frz o (.dT kvs)) ∧ i < kvs.length, fun i H x H' => ∃ T k v q, kvs[i]? = some (k, v) ∧ x = .ref T ∧ H T = none ∧ H q = some (.tup (k.map kV)) ∧ H' = upd H T (.tup [.ref q, v]), fun i H => H d = some (.frz o (.dT kvs)) ∧ kvs.length ≤ i⟩
theorem turn_itemsT {P : Program} {w : World} {K : PySem.W.Frag} {es : Array DictEntry} {ep : Nat} {kvs : List (List Key × V)} {elts : List Expr} {kk : Nat} {tpos : Pos} (it : Addr) (hod : o.data = .dict es ep) (hex : o.ExactDict) :
    Turn P w K (.Tuple elts kk tpos) (ItT d o kvs) [it] it (fun i h => ∃ ok ov, IsItemIter h it d i es.size ep ok ov) where
  mem := by simp
  obj := fun i h st b hb => by
    have e : b = it := by simpa using hb
    subst e
    obtain ⟨ok, ov, e⟩ := st
    exact ⟨_, e, fun v z => nomatch z⟩
  keep := fun i h h' st k => let ⟨ok, ov, e⟩ := st; ⟨ok, ov, k it (by simp) _ e⟩
  item := by
    intro X hP hw hK hc i pins s σ H E I hf st hg
    subst hP hw hK
    obtain ⟨hd, hi⟩ := hg
    obtain ⟨hs, hgd, hx, es', ep', hdt, hsz, ent⟩ := frzT2 I hd
    obtain ⟨rfl, rfl⟩ := dict_ep hod hdt
    obtain ⟨⟨k, v⟩, hkv⟩ : ∃ p, kvs[i]? = some p := ⟨kvs[i], List.getElem?_eq_getElem hi⟩
    obtain ⟨en, q, hen, hkey, hval, hq⟩ := ent i k v hkv
    obtain ⟨ok, ov, he⟩ := st
    have hlt : it < s.heap.objs.size := Heap.lt_size he
    have hi' : i < es'.size := by omega
    have een : es'[i] = en := by
      rw [Array.getElem?_eq_getElem hi'] at hen
      exact Option.some.inj hen
    refine wpAny_pyNext_items_item_raw he ⟨o, hgd, hx, hdt⟩ hi' fun h' ho hT hz hk => ?_
    rw [een, hkey] at ho hT
    refine ⟨_, rfl, wpAny_letOwnedTupleGo_items (s := { s with heap := h' }) ho fun h'' he' sb => ?_⟩
    have hT2 : h''.get? s.heap.objs.size = some { cls := .type "tuple", data := .seq #[.ref q, en.val] } := (sb.2 _ (Nat.ne_of_gt hlt)).trans hT
    have new : ObjOk X.prog X.w (upd H s.heap.objs.size (.tup [.ref q, v])) h'' s.heap.objs.size (.tup [.ref q, v]) :=
      ⟨by show 2 ≤ sizeLine; decide, [.ref q, en.val], .cons rfl (.cons hval .nil), ⟨_, hT2, rfl, _, rfl⟩⟩
    have I1 : Inv X pins σ (upd H s.heap.objs.size (.tup [.ref q, v])) { s with heap := h'' } :=
      I.turnedNew (t' := s.toks) (ch := [it]) (fun b ob hb e => (sb.2 b (by simpa using hb)).trans (hk b ob (by simpa using hb) e)) hf (Nat.le_refl _) new
    refine ⟨.ref s.heap.objs.size, _, I1, rfl, ⟨_, k, v, q, hkv, rfl, I.hok.fresh (Nat.le_refl _), hq, rfl⟩, ⟨_, _, he'⟩, fun b hb => ?_⟩
    have e : b = it := by simpa using hb
    rw [e, upd_ne (Nat.ne_of_lt hlt)]
    exact (hf it (by simp)).1
  done := by
    intro X hP hw hK hc i pins s σ H E I hf st hg
    subst hP hw hK
    obtain ⟨hd, hi⟩ := hg
    obtain ⟨f0, f1, f2, f3, f4, f5⟩ := hf it (by simp)
    obtain ⟨hs, hgd, hx, es', ep', hdt, hsz, ent⟩ := frzT2 I hd
    obtain ⟨rfl, rfl⟩ := dict_ep hod hdt
    obtain ⟨ok, ov, he⟩ := st
    exact wpAny_pyNext_items_end_raw (I.ok.hd hc) he ⟨o, hgd, hx, hdt⟩ (by omega) fun h' eb => ⟨rfl, I.turned (t' := s.toks) (fun b ob hb e => eb b ob hb e) f0 f1 f3 f4 f5⟩
  self := fun A i s Q E st h => let ⟨_, _, e⟩ := st; PySem.W.kcp_self e h
def iItemsT (td : TE) : TI := fun σ H R => td σ H fun x H1 => ∃ d o kvs, x = .ref d ∧ H1 d = some (.frz o (.dT kvs)) ∧ R (ItT d o kvs) H1
theorem pi_itemsT {e : Expr} {td : TE} {apos cpos : Pos} {elts : List Expr} {kk : Nat} {tpos : Pos} (he : PE X e td) (hbase : attributeBase e "items" X.env (eval e X.env) = eval e X.env := by rfl) (hline : (apos.endLine == cpos.line) = true := by rfl) :
    PI X (.Tuple elts kk tpos) (.Call (.Attribute e "items" apos) [] [] cpos) (iItemsT td) := by
  refine ⟨fun pins s σ H R I h => ?_⟩
  refine wpAny_Call_method (T := "dict") (id := "dict.items") hbase rfl hline F.plainAttrs_dict F.slot_dict_items F.type_dict_items (thn (he.run pins s σ H _ I h) fun u s1 ⟨x, H1, I1, rx, d, o, kvs, ex, hd, q⟩ => ?_)
  subst ex
  obtain rfl : u = Value.ref d := rx
  obtain ⟨hs, hgd, hx, es, ep, hdt, hsz, ent⟩ := frzT2 I1 hd
  have raw : PySem.Heap.DictRaw s1.heap d es ep := ⟨o, hgd, hx, hdt⟩
  obtain ⟨t1, t2, _⟩ := isD_at I1 (a := d) (.inr ⟨kvs, .inr ⟨o, hd⟩⟩)
  refine ⟨t1, t2, ?_⟩
  have I2 : Inv X pins σ H1 { s1 with heap := s1.heap.push { cls := .type "dict_items", data := .fields #[.ref d] } } := I1.kept (t' := s1.toks) fun b ob q => Heap.get?_push_of_some _ q
  have fin : wpAny (model X.prog X.w) X.A (pyIter (.ref s1.heap.objs.size)) (PIE X pins σ (.Tuple elts kk tpos) R) X.xe { s1 with heap := s1.heap.push { cls := .type "dict_items", data := .fields #[.ref d] } } := by
    exact wpAny_pyIter_items_raw (d := d) ⟨_, Heap.get?_push_size _ rfl, rfl, rfl⟩ (raw.at fun o e => Heap.get?_push_of_some _ e) (pi_one (tk := s1.toks) I2 _ (turn_itemsT _ hdt hx) ⟨.none, .none, Heap.get?_push_size _ rfl⟩ q)
  show wpAny _ _ (callWith cpos (.builtin "dict.items") [.ref d] [] []) _ X.xe s1
  exact method_meetsIn F.slot_dict_items F.entry_dict_items rfl (PySem.evalArgs_none ⟨rfl, raw.typeIs, F.args_dict_items_1 _, _, meets_dict_items_raw d hs, ⟨⟨es, ep, raw⟩, fin⟩⟩)
/-- its walk -/
theorem walk_itemsT {kvs : List (List Key × V)} : Walk (ItT d o kvs) kvs.length (fun H => H d = some (.frz o (.dT kvs)))
    (fun i H x H' => ∃ T k v q, kvs[i]? = some (k, v) ∧ x = .ref T ∧ H T = none ∧ H q = some (.tup (k.map kV)) ∧ H' = upd H T (.tup [.ref q, v])) :=
  ⟨fun _ _ hi q => ⟨q, hi⟩, fun _ q => ⟨q, Nat.le_refl _⟩, fun _ _ _ _ _ _ y => y⟩
end
/-! ### sorted -/
section
variable {prog : Program} {w : World} {A : Around} {E : Value → Shared → Prop} {s : Shared}
theorem collect_kdl {T : String} {r d : Addr} {n : Nat} {P : Nat → Value → Prop} {OK : Heap → Prop} {Q : List Value → Shared → Prop} (K : PySem.W.KdlSrc prog w T r d n P OK) (hh : A.handled = none) (hok : OK s.heap) (hn : n ≤ sizeLine)
    (hQ : ∀ (h' : Heap) (tk : Nat) (acc : Array Value), (∀ b o, s.heap.get? b = some o → h'.get? b = some o) → s.heap.objs.size < h'.objs.size → ItemsOf P acc n → Q acc.toList { s with heap := h', toks := tk }) :
    wpAny (model prog w) A (collect (.ref r)) Q E s := by
  obtain ⟨hr, hd⟩ := K.there _ hok
  unfold collect
  refine wpAny_bind (wpAny_runValue (codeAny_builtin F.entry_proto_collect ?_))
  rw [Around.under_plainId F.plain_proto_collect _]
  show wpAny _ A.in1 (newList [] >>= fun l => again (.builtin "list.__iadd__" ⟨[l, .ref r], []⟩)) _ _ s
  refine wpAny_bind (wpAny_newObj_type ?_)
  refine wpAny_pure ⟨plainId_quiet F.plain_list_iadd _, codeAny_builtin F.entry_list_iadd ?_⟩
  rw [Around.under_plainId F.plain_list_iadd _]
  have hS : (s.heap.push { cls := .type "list", data := .seq ([] : List Value).toArray }).get? s.heap.objs.size = some { cls := .type "list", data := .seq #[] } := Heap.get?_push_size _ rfl
  show wpAny _ A.in1 (Builtin.List.listExtendWith (.ref s.heap.objs.size) (.ref r) (.ref s.heap.objs.size)) _ _ _
  have key := PySem.W.kdl_extend (A := A) (s := { s with heap := s.heap.push { cls := .type "list", data := .seq ([] : List Value).toArray } })
    (R := fun (q : Result) (s' : Shared) => ∃ (h' : Heap) (tk : Nat) (acc' : Array Value) (c' : Nat), q = .ok (.ret (.ref s.heap.objs.size)) ∧ s' = { s with heap := h', toks := tk } ∧
      (∀ b o, s.heap.get? b = some o → h'.get? b = some o) ∧ h'.get? s.heap.objs.size = some { cls := .type "list", dict := none, data := .seq acc' c', slots := #[] } ∧ ItemsOf P acc' n)
    K hh (K.keep _ _ hok fun b _ o e => Heap.get?_push_of_some _ e) s.heap.objs.size (Nat.ne_of_gt hr) (Nat.ne_of_gt hd) (.ref s.heap.objs.size) 0 hS
    (fun h' tk acc' c' hk hS' hacc => ⟨h', tk, acc', c', rfl, rfl, fun b o e => hk b o (Nat.ne_of_lt (Heap.lt_size e)) (Heap.get?_push_of_some _ e), hS', hacc⟩) hn
  refine wpAny_mono key (fun fin s' x => ?_) fun e s' x => ?_
  · cases fin with
    | done f =>
      obtain ⟨h', tk, acc', c', e, rfl, hk, hS', hacc⟩ := x
      cases e
      show wpAny _ A (load s.heap.objs.size >>= _) _ _ _
      exact wpAny_bind (wpAny_load hS' (wpAny_pure (hQ h' tk acc' hk (Heap.lt_size hS') hacc)))
    | again c₁ =>
      refine ⟨x.1, codeAny_mono x.2 fun q s₂ y => ?_⟩
      obtain ⟨h', tk, acc', c', rfl, rfl, hk, hS', hacc⟩ := y
      show wpAny _ A (load s.heap.objs.size >>= _) _ _ _
      exact wpAny_bind (wpAny_load hS' (wpAny_pure (hQ h' tk acc' hk (Heap.lt_size hS') hacc)))
  · obtain ⟨_, _, _, _, e', _⟩ := x
    cases e'
/-- sorted(v), where v gives the values vs -/
theorem sorted_by {lt : Value → Value → Bool} {v : Value} {Q : Value → Shared → Prop} (O : SrtO.Swo lt)
    (hc : wpAny (model prog w) A.in1 (collect v) (fun vs s1 => vs.length ≤ sizeLine ∧ (∀ b o, s.heap.get? b = some o → s1.heap.get? b = some o) ∧ s.heap.objs.size ≤ s1.heap.objs.size ∧
      (2 ≤ vs.length → ∀ (h₁ : Heap) (a : Addr), h₁.get? a = some (seqObj "list" vs.toArray 0) → (∀ b o, s1.heap.get? b = some o → b ≠ a ∧ h₁.get? b = some o) → SrtO.SortableO prog w A.in1.in1 { s1 with heap := h₁ } a vs lt) ∧
      ∀ (h' : Heap) (p : Addr) (out : List Value) (c : Nat), (∀ b o, s1.heap.get? b = some o → h'.get? b = some o) → s1.heap.objs.size ≤ p → h'.get? p = some (seqObj "list" out.toArray c) → SrtO.Srtd lt out → SrtO.Stb lt out vs → Q (.ref p) { s1 with heap := h' }) E s) :
    wpAny (model prog w) A (call (.builtin "sorted") [v]) Q E s := by
  refine Calls.call_function_entry kind_sorted plain_sorted entry_sorted (args_sorted1 _) ?_
  unfold Builtin.«sorted»
  refine wpAny_bind (m := checkCount "sorted" 1 1 _) (wpAny_pure ?_)
  refine wpAny_bind (wpAny_mono hc (fun vs s1 ⟨hz, k1, ksz, hS, q⟩ => ?_) fun _ _ e => e)
  refine wpAny_bind (wpAny_newList ?_ hz)
  have hoL : (s1.heap.push (seqObj "list" vs.toArray 0)).get? s1.heap.objs.size = some (seqObj "list" vs.toArray 0) := Heap.get?_push_size _ rfl
  refine wpAny_bind (wpAny_holding (wpAny_call_entry slot_list_sort ⟨_, hoL, rfl⟩ entry_list_sort (SrtO.list_sort_ord O hoL hz (fun h2 => hS h2 _ _ hoL fun b o e => ⟨Nat.ne_of_lt (Heap.lt_size e), Heap.get?_push_of_some _ e⟩) fun out h1 h2 => ⟨_, rfl, ?_⟩) (args_list_sort _)))
  obtain ⟨c, hc'⟩ := sortedHeap_at (vs := vs) (out := out.toArray) hoL
  refine wpAny_pure ⟨_, rfl, q _ s1.heap.objs.size out c (fun b u e => ?_) (Nat.le_refl _) hc' h1 h2⟩
  have hlt := Heap.lt_size e
  show (sortedHeap (s1.heap.push (seqObj "list" vs.toArray 0)) s1.heap.objs.size vs out.toArray).get? b = some u
  rw [sortedHeap_old (Nat.ne_of_lt hlt) (by rw [size_push']; exact Nat.lt_succ_of_lt hlt)]
  exact Heap.get?_push_of_some _ e
end
section
variable {X : Cx}
/-- sorted(d), d's keys ints -/
def rSortedDK : List V → Hp → VK → Prop := fun vs H Q => ∃ (a : Addr) (kvs : List (Key × V)) (ns : List Int), vs = [V.ref a] ∧ Rd H a (.dK kvs) ∧ kvs.map (·.1) = ns.map Sum.inl ∧
  ∀ (ns' : List Int) (p : Addr), ns'.Perm ns → H p = none → Q (.ref p) (upd H p (.lst (ns'.map V.int)))
theorem cr_sortedDK (hc : X.calm = true) : CallR X (.builtin "sorted") rSortedDK := by
  intro pins s σ H vs us Q I r h
  obtain ⟨a, kvs, ns, rfl, ha, hns, q⟩ := h
  rw [Vals.ref1 r]
  obtain ⟨z, lo, vs, rk, hd⟩ := dk_rd I.hok ha
  obtain ⟨ep, hat⟩ := hd.dictAt
  have hl : kvs.length = vs.length := Paired.length rk
  have ln : kvs.length = ns.length := by have := congrArg List.length hns; simpa using this
  refine sorted_by SrtO.swo_int (collect_kdl (PySem.W.kdl_dict (knd := mixKind X.prog X.w) (kvs := vs) (ep := ep) lo) (I.ok.hd hc) hat (by omega) fun h' tk acc hk hsz hacc => ?_)
  have el : acc.toList.length = ns.length := by rw [Array.length_toList, hacc.1]; omega
  have hI : IntsAre acc.toList ns := by
    have rv : Vals (ns.map V.int) acc.toList := by
      refine vals_of_at (by rw [List.length_map, el]) fun j x u h1 h2 => ?_
      obtain ⟨k, y, hky, hi⟩ := hacc.2 j u (by rw [← Array.getElem?_toList]; exact h2)
      have e1 : (kvs.map (·.1))[j]? = some k := by rw [KV.keys rk, List.getElem?_map, hky] <;> rfl
      rw [hns, List.getElem?_map] at e1
      obtain ⟨n, hn, rfl⟩ := Option.map_eq_some_iff.mp e1
      rw [List.getElem?_map, hn] at h1
      cases h1
      exact keyIs_rel (show keyIs (.inl n) u = true from hi)
    exact rv.ints
  refine ⟨by omega, hk, Nat.le_of_lt hsz, fun h2 h₁ a' _ _ => SrtO.ints_sortable hI h2, fun h2 p out c kk hp hg h1 h2' => ?_⟩
  obtain ⟨k1, k2, k3⟩ := SrtO.ints_out hI h1 h2'
  have hp' : s.heap.objs.size ≤ p := Nat.le_trans (Nat.le_of_lt hsz) hp
  have hlen : ((out.map SrtO.iv).map V.int).length ≤ sizeLine := by rw [List.length_map, k2.length_eq]; omega
  exact ⟨.ref p, upd H p (.lst ((out.map SrtO.iv).map V.int)), I.laid (t' := tk) (fun b o e => kk b o (hk b o e)) hp' ⟨hlen, out, c, vals_of_ints k1, hg⟩, rfl, q _ _ k2 (I.hok.fresh hp')⟩
end
end Bw
end
section
set_option Elab.async false
set_option linter.all false
set_option maxRecDepth 100000
set_option maxHeartbeats 4000000
/-! sorted(d), d's keys pairs of ints; sorted(d.items()); sets of ints by a comprehension. -/
namespace Bw
open PySem PySem.Spec PyProof.Rows L2
open L2.DX
/-- the ints of a pair, read off the heap -/
noncomputable def kpr (h : Heap) (v : Value) : Int × Int := @dite _ (∃ m : Int × Int, Srt.IsPair h v m.1 m.2) (Classical.propDecidable _) (fun e => e.choose) fun _ => (0, 0)
theorem kpr_is {h : Heap} {v : Value} {x y : Int} (p : Srt.IsPair h v x y) : Srt.IsPair h v (kpr h v).1 (kpr h v).2 := by
  have e : ∃ m : Int × Int, Srt.IsPair h v m.1 m.2 := ⟨(x, y), p⟩
  unfold kpr
  rw [@dif_pos _ (Classical.propDecidable _) e]
  exact e.choose_spec
theorem pair_in {P : Program} {w : World} {H : Hp} {h : Heap} {q : Addr} {i j : Int} (ok : HOk P w H h) (e : H q = some (.tup [.int i, .int j])) : Srt.IsPair h (.ref q) i j := by
  obtain ⟨_, its, r, o, ho, hc, n, hd⟩ := (show ObjOk P w H h q (.tup [.int i, .int j]) from ok q _ e)
  match its, r with
  | _, .cons r1 (.cons r2 .nil) =>
    obtain ⟨t1, rfl⟩ := r1
    obtain ⟨t2, rfl⟩ := r2
    exact ⟨q, o, t1, t2, n, rfl, ho, hc, hd⟩
section
variable {X : Cx}
/-- sorted(d), d's keys pairs of ints -/
def rSortedDT : List V → Hp → VK → Prop := fun vs H Q => ∃ (a : Addr) (kvs : List (List Key × V)), vs = [V.ref a] ∧ Rd H a (.dT kvs) ∧ (∀ p ∈ kvs, ∃ i j : Int, p.1 = [Sum.inl i, Sum.inl j]) ∧
  ∀ (p : Addr) (bs bs' : List Addr), H p = none → IsKeys H kvs bs → bs'.Perm bs → Q (.ref p) (upd H p (.lst (bs'.map V.ref)))
theorem cr_sortedDT (hc : X.calm = true) : CallR X (.builtin "sorted") rSortedDT := by
  intro pins s σ H vs us Q I r h
  obtain ⟨d, kvs, rfl, hd, hk2, q⟩ := h
  rw [Vals.ref1 r]
  obtain ⟨z, hs, ks, pr, o, es, ep, ho, hx, hdt, he, hn⟩ := (show ObjOk X.prog X.w H s.heap d (.dT kvs) from hd.ok I.hok)
  have l1 : es.size = ks.length := size_of_entries he
  have l2 : kvs.length = ks.length := Paired.length pr
  refine sorted_by (SrtO.swo_lex (kpr s.heap)) (collect_kdl (kdl_raw hs hx hdt) (I.ok.hd hc) ho (by omega) fun h' tk acc kp hsz it => ?_)
  have ea : acc.toList = (ks.map fun x => x.2.1).map Value.ref := by
    rw [List.map_map]
    have hl : acc.toList.length = ks.length := by rw [Array.length_toList, it.1]; exact l1
    apply List.ext_getElem?
    intro j
    rw [List.getElem?_map]
    cases hj : acc.toList[j]? with
    | none =>
      have h1 := List.getElem?_eq_none_iff.mp hj
      rw [List.getElem?_eq_none (by omega)]
      rfl
    | some v =>
      obtain ⟨en, hen, hv⟩ := it.2 j v (by rw [← Array.getElem?_toList]; exact hj)
      have qe := entry_at he j
      rw [hen] at qe
      cases hb : ks[j]? with
      | none =>
        rw [hb] at qe
        exact nomatch (show some en = none from qe)
      | some b =>
        rw [hb] at qe
        have e2 : en = entryOfKey (tupleKind (mixKind X.prog X.w)) b := Option.some.inj qe
        rw [hv, e2]
        rfl
  have ik : IsKeys H kvs (ks.map fun x => x.2.1) := isKeys_of pr
  generalize hbs : ks.map (fun x => x.2.1) = bs at ea ik
  have lbs : bs.length = ks.length := by rw [← hbs, List.length_map]
  have ip : ∀ v ∈ acc.toList, Srt.IsPair s.heap v (kpr s.heap v).1 (kpr s.heap v).2 := fun v hv => by
    rw [ea] at hv
    obtain ⟨b, hb, rfl⟩ := List.mem_map.mp hv
    obtain ⟨j, hj⟩ := List.mem_iff_getElem?.mp hb
    obtain ⟨p, hp, e⟩ : ∃ p, kvs[j]? = some p ∧ H b = some (.tup (p.1.map kV)) := by
      have hlt := (List.getElem?_eq_some_iff.mp hj).1
      obtain ⟨b', hb', e⟩ := L2.paired_get ik (i := j) (a := kvs[j]'(by omega)) (List.getElem?_eq_getElem (by omega))
      rw [hj] at hb'
      cases hb'
      exact ⟨_, List.getElem?_eq_getElem (by omega), e⟩
    obtain ⟨i, j', e2⟩ := hk2 p (List.mem_of_getElem? hp)
    rw [e2] at e
    exact kpr_is (pair_in I.hok e)
  have len : acc.toList.length = kvs.length := by rw [ea, List.length_map]; omega
  refine ⟨by omega, kp, Nat.le_of_lt hsz, fun h2 h₁ a' ha' kk => ?_, fun h2 p out c kk hp hg h1 h2' => ?_⟩
  · refine SrtO.pairs_sortableO (s := { s with heap := h₁, toks := tk }) (by omega) (fun v hm => (ip v hm).keeps fun b o e _ => (kk b o (kp b o e)).2) fun o e => ?_
    have e' : some o = some (seqObj "list" acc.toList.toArray 0) := e.symm.trans ha'
    cases e'
    intro c
    exact absurd (Value.type.inj c) (by decide)
  · have pm := h2'.perm
    rw [ea] at pm
    obtain ⟨bs', pb, eb⟩ := perm_lift Value.ref pm bs rfl
    have hp' : s.heap.objs.size ≤ p := Nat.le_trans (Nat.le_of_lt hsz) hp
    have hlen : (bs'.map V.ref).length ≤ sizeLine := by rw [List.length_map, pb.length_eq, lbs]; omega
    exact ⟨.ref p, upd H p (.lst (bs'.map V.ref)), I.laid (t' := tk) (fun b o e => kk b o (kp b o e)) hp' ⟨hlen, out, c, by rw [← eb]; exact vals_refs bs', hg⟩, rfl, q p bs bs' (I.hok.fresh hp') ik pb⟩
/-- d.items(), as a value: keys and values ints -/
def rItemsK : V → List V → Hp → VK → Prop := fun x xs H Q => ∃ (a : Addr) (kvs : List (Key × V)), x = .ref a ∧ xs = [] ∧ H a = some (.dK kvs) ∧ ∀ p, H p = none → Q (.ref p) (upd H p (itemsO p a))
theorem mt_itemsK : MtR X "dict.items" rItemsK := by
  intro pins s σ H x xs v us Q I rx rxs h
  obtain ⟨a, kvs, rfl, rfl, ha, q⟩ := h
  cases rx
  cases rxs
  obtain ⟨z, lo, vs, rk, hd⟩ := dk_of I.hok ha
  obtain ⟨es, ep, raw, _⟩ := Heap.DictOf.raw hd
  refine DT.callItems (es := es) (ep := ep) lo raw ?_
  exact ⟨.ref s.heap.objs.size, upd H s.heap.objs.size (itemsO s.heap.objs.size a), I.laid (t' := s.toks) (fun b u e => Heap.get?_push_of_some _ e) (Nat.le_refl _) (itemsO_ok (Heap.get?_push_size _ rfl)), rfl, q _ (I.hok.fresh (Nat.le_refl _))⟩
abbrev entK (m : Int × Int) : Key × V := (Sum.inl m.1, .int m.2)
/-- sorted(d.items()) -/
def rSortedItK : List V → Hp → VK → Prop := fun vs H Q => ∃ (p a : Addr) (ms : List (Int × Int)), vs = [.ref p] ∧ H p = some (itemsO p a) ∧ H a = some (.dK (ms.map entK)) ∧
  ∀ (H' : Hp) (l : Addr) (ps : List (Addr × (Int × Int))), (∀ b o, H b = some o → H' b = some o) → H l = none → (ps.map (·.2)).Perm ms → H' l = some (.lst (ps.map fun z => V.ref z.1)) → (∀ z ∈ ps, H' z.1 = some (.tup [.int z.2.1, .int z.2.2])) → Q (.ref l) H'
theorem cr_sortedItK (hc : X.calm = true) : CallR X (.builtin "sorted") rSortedItK := by
  intro pins s σ H xs us Q I r h
  obtain ⟨p, a, ms, rfl, hp, ha, q⟩ := h
  obtain rfl := Vals.ref1 r
  have view : s.heap.IsItemsView p a := (show ObjOk X.prog X.w H s.heap p (itemsO p a) from I.hok p _ hp).1
  obtain ⟨z, lo, vs, rk, hd⟩ := dk_of I.hok ha
  obtain ⟨es, ep, raw, esz, ent⟩ := Heap.DictOf.raw hd
  have l1 : (ms.map entK).length = vs.length := Paired.length rk
  rw [List.length_map] at l1 z
  have hh : X.A.handled = none := I.ok.hd hc
  refine DT.sortedI (es := es) (ep := ep) hh view raw (by omega) fun h' tk as hk hlt hl hG => ?_
  have lam : as.length = ms.length := by omega
  have nd : as.Nodup := List.Pairwise.imp (fun h => Nat.ne_of_lt h) hG.rise
  have pr : ∀ (j : Nat) (b : Addr), as[j]? = some b → ∃ m : Int × Int, ms[j]? = some m ∧ ∃ t t', h'.get? b = some { cls := .type "tuple", data := .seq #[Value.int m.1 t, Value.int m.2 t'] } := by
    intro j b hj
    obtain ⟨en, he, hg⟩ := hG.pairs j b hj
    have hjs : j < es.size := (Array.getElem?_eq_some_iff.mp he).1
    have een : es[j] = en := (Array.getElem?_eq_some_iff.mp he).2
    have hjm : j < ms.length := by omega
    obtain ⟨v, hv, r1, r2⟩ := L2.paired_get rk (i := j) (a := entK ms[j]) (by rw [List.getElem?_map, List.getElem?_eq_getElem hjm]; rfl)
    obtain ⟨k1, k2⟩ := ent j hjs v.1 v.2 (by rw [hv])
    rw [een] at k1 k2
    rw [← r1] at k1
    obtain ⟨t, et⟩ := (show RelV (kV (Sum.inl ms[j].1)) en.key from keyIs_rel (show keyIs (.inl ms[j].1) en.key = true from k1))
    obtain ⟨t', et'⟩ := (show RelV (.int ms[j].2) v.2 from r2)
    exact ⟨ms[j], List.getElem?_eq_getElem hjm, t, t', by rw [hg, et, k2, et']⟩
  have hob : (h'.push { cls := .type "list", data := .seq (as.map Value.ref).toArray }).get? h'.objs.size = some (seqObj "list" (as.map Value.ref).toArray 0) := Heap.get?_push_size _ rfl
  have ne0 : ∀ b o, h'.get? b = some o → b ≠ h'.objs.size := fun b o e => Nat.ne_of_lt (Heap.lt_size e)
  have ka : ∀ b o, h'.get? b = some o → (h'.push { cls := .type "list", data := .seq (as.map Value.ref).toArray }).get? b = some o := fun b o e => Heap.get?_push_of_some _ e
  have hsz2 : (h'.push { cls := .type "list", data := .seq (as.map Value.ref).toArray }).objs.size = h'.objs.size + 1 := Heap.size_push ..
  generalize hh2 : h'.push { cls := .type "list", data := .seq (as.map Value.ref).toArray } = h2 at hob ka hsz2 ⊢
  have ip : ∀ v ∈ as.map Value.ref, Srt.IsPair h2 v (kpr h2 v).1 (kpr h2 v).2 := fun v hv => by
    obtain ⟨b, hb, rfl⟩ := List.mem_map.mp hv
    obtain ⟨j, hj⟩ := List.mem_iff_getElem?.mp hb
    obtain ⟨m, _, t, t', e⟩ := pr j b hj
    exact kpr_is (show Srt.IsPair h2 (.ref b) m.1 m.2 from ⟨b, _, t, t', 0, rfl, ka _ _ e, rfl, rfl⟩)
  refine wpAny_call_entry PyProof.Rows.slot_list_sort ⟨_, hob, rfl⟩ PyProof.Rows.entry_list_sort
    (SrtO.list_sort_ord (s := { s with heap := h2, toks := tk }) (SrtO.swo_lex (kpr h2)) hob (by rw [List.length_map]; omega) (fun h2l => ?_) fun out h1 h2' => ⟨.none, rfl, ?_⟩) (PyProof.Rows.args_list_sort _)
  · refine SrtO.pairs_sortableO (by omega) ip fun o e => ?_
    have e' : some o = some (seqObj "list" (as.map Value.ref).toArray 0) := e.symm.trans hob
    cases e'
    intro c
    exact absurd (Value.type.inj c) (by decide)
  · show EP X pins σ Q (.ref h'.objs.size) { s with heap := sortedHeap h2 h'.objs.size (as.map Value.ref) out.toArray, toks := tk }
    have kF : ∀ b o, b ≠ h'.objs.size → h2.get? b = some o → (sortedHeap h2 h'.objs.size (as.map Value.ref) out.toArray).get? b = some o := fun b o hb e => (PyProof.Rows.sortedHeap_old hb (Heap.lt_size e)).trans e
    have kS : ∀ b o, s.heap.get? b = some o → (sortedHeap h2 h'.objs.size (as.map Value.ref) out.toArray).get? b = some o := fun b o e => kF b o (ne0 _ _ (hk b o e)) (ka b o (hk b o e))
    obtain ⟨eF, heF⟩ := PyProof.Rows.sortedHeap_at (vs := as.map Value.ref) (out := out.toArray) hob
    have pm : out.Perm (as.map Value.ref) := h2'.perm
    have lz : (as.zip ms).map (·.1) = as := List.map_fst_zip (by omega)
    have lz2 : (as.zip ms).map (·.2) = ms := List.map_snd_zip (by omega)
    have ez0 : (as.zip ms).map (fun z : Addr × (Int × Int) => Value.ref z.1) = as.map Value.ref := by
      have := congrArg (List.map Value.ref) lz
      rw [List.map_map] at this
      exact this
    obtain ⟨zs, pz, ez⟩ := perm_lift (fun z : Addr × (Int × Int) => Value.ref z.1) pm (as.zip ms) ez0
    generalize hhF : sortedHeap h2 h'.objs.size (as.map Value.ref) out.toArray = hF at kF kS heF ⊢
    have I1 : Inv X pins σ H { s with heap := hF, toks := tk } := I.kept (t' := tk) kS
    have hn0 : H h'.objs.size = none := I.hok.fresh (Nat.le_of_lt hlt)
    have hlen : (zs.map fun z => V.ref z.1).length ≤ sizeLine := by rw [List.length_map, pz.length_eq, List.length_zip]; omega
    have rv : Vals (zs.map fun z => V.ref z.1) out := by
      rw [← ez]
      have := vals_refs (zs.map (·.1))
      rw [List.map_map, List.map_map] at this
      exact this
    have I2 : Inv X pins σ (upd H h'.objs.size (.lst (zs.map fun z => V.ref z.1))) { s with heap := hF, toks := tk } :=
      I1.take (h' := hF) (t' := tk) (fun b ob _ e => e) (I.fpOk (Nat.le_of_lt hlt) hn0) ⟨hlen, out, eF, rv, heF⟩
    have inF : ∀ b m, (b, m) ∈ as.zip ms → ∃ t t', hF.get? b = some { cls := .type "tuple", data := .seq #[Value.int m.1 t, Value.int m.2 t'] } := fun b m hbm => by
      obtain ⟨j, hj⟩ := List.mem_iff_getElem?.mp hbm
      obtain ⟨j1, j2⟩ := List.getElem?_zip_eq_some.mp hj
      obtain ⟨m', e1, t, t', e2⟩ := pr j b j1
      have e3 : m = m' := by
        have e4 : ms[j]? = some m := j2
        rw [e4] at e1
        exact Option.some.inj e1
      subst e3
      exact ⟨t, t', kF _ _ (ne0 _ _ e2) (ka _ _ e2)⟩
    obtain ⟨H2, I3, g, qt⟩ := takeT (P := fun b vs => ∃ m : Int × Int, (b, m) ∈ as.zip ms ∧ vs = [.int m.1, .int m.2]) I as _ I2 nd fun b hb => by
      obtain ⟨j, hj⟩ := List.mem_iff_getElem?.mp hb
      obtain ⟨m, e1, t, t', e2⟩ := pr j b hj
      have hz : (b, m) ∈ as.zip ms := List.mem_of_getElem? (List.getElem?_zip_eq_some.mpr ⟨hj, e1⟩)
      have bsz : s.heap.objs.size ≤ b := Nat.le_of_lt (hG.above b hb)
      refine ⟨bsz, by rw [upd_ne (ne0 _ _ e2)]; exact I.hok.fresh bsz, _, ⟨m, hz, rfl⟩, fun H3 => ?_⟩
      obtain ⟨u, u', e3⟩ := inF b m hz
      exact ⟨by show 2 ≤ sizeLine; decide, [.int m.1 u, .int m.2 u'], .cons ⟨u, rfl⟩ (.cons ⟨u', rfl⟩ .nil), ⟨_, e3, rfl, _, rfl⟩⟩
    refine ⟨.ref h'.objs.size, H2, I3, rfl, q H2 _ zs (fun b o e => g b o (by rw [upd_ne (ne_of_none e hn0)]; exact e)) hn0 ?_ (g _ _ upd_same) fun zz hzz => ?_⟩
    · have := pz.map (·.2)
      rw [lz2] at this
      exact this
    · have hz : (zz.1, zz.2) ∈ as.zip ms := pz.mem_iff.mp hzz
      obtain ⟨vs', ⟨m, hm, rfl⟩, e⟩ := qt zz.1 (by rw [← lz]; exact List.mem_map.mpr ⟨_, hz, rfl⟩)
      obtain ⟨t1, t2, e1⟩ := inF _ _ hz
      obtain ⟨t3, t4, e2⟩ := inF _ _ hm
      rw [e1] at e2
      have e3 : m.1 = zz.2.1 ∧ m.2 = zz.2.2 := by
        injection e2 with e2
        injection e2 with _ _ e2
        injection e2 with e2
        have e4 := congrArg Array.toList e2
        injection e4 with a1 a2
        injection a2 with a2 _
        injection a1 with a1 _
        injection a2 with a2 _
        exact ⟨a1.symm, a2.symm⟩
      rw [← e3.1, ← e3.2]
      exact e
end
end Bw
end
section
set_option Elab.async false
set_option linter.all false
set_option maxRecDepth 100000
set_option maxHeartbeats 4000000
/-! {x for .. in ..}, x an int. -/
namespace Bw
open PySem PySem.Spec PyProof.Rows L2 PpSet
section
variable {X : Cx}
theorem addO_ok {pins : List (Addr × Obj)} {σ : L2.St} {H : Hp} {s : Shared} {E : Value → Shared → Prop} {D : Addr} {S : Int → Bool} {n : Nat} {y : Int} {tk : Tok} {Q : Value → Shared → Prop} (I : Inv X pins σ H s) (hD : H D = some (SetO X.w D S n)) (room : n + 1 < scanBound)
    (h : ∀ s', Inv X pins σ (upd H D (SetO X.w D (fun j => S j || decide (j = y)) (if S y = true then n else n + 1))) s' → Q .none s') : wpAny (model X.prog X.w) X.A (call (.builtin "set.add") [.ref D, .int y tk]) Q E s := by
  refine setR_add (setO_get I hD) room fun h' sb new => ?_
  have he : ∃ u, h'.get? D = some u := by
    have ⟨o, _, _, _, ho, _⟩ := new
    exact ⟨o, ho⟩
  exact h _ (I.write (e := D) (t' := s.toks + 1) (by rw [hD]; trivial) (.inl rfl) (fun b u hb hu => (sb.2 b hb).trans hu) he (setO_new new))
/-- D the new set of ints -/
def tScI (w : World) (wi : TI) (g : TG) (tt : TT) (te : TE) (vs : List Nat) : TE := fun σ H Q => wi σ H fun J H1 => ∀ D, H1 D = none → ∃ W : Nat → Nat → Hp → Prop, (∃ m, W 0 m (upd H1 D (SetO w D (fun _ => false) 0))) ∧ ∀ i m H, W i m H →
  (J.stop i H ∧ Q (.ref D) H) ∨ (J.go i H ∧ ∃ Nx : Hp → Prop, (∀ H', Nx H' → ∃ m', m' < m ∧ W (i + 1) m' H') ∧ ∀ x H', J.yld i H x H' → g x (wipe σ vs) H' fun σ2 H2 => wipe σ2 vs = wipe σ vs ∧ tt σ2 H2 fun b H3 =>
    if b = true then te σ2 H3 fun y H4 => ∃ (c : Int) (S : Int → Bool) (n : Nat), y = .int c ∧ H4 D = some (SetO w D S n) ∧ n + 1 < scanBound ∧ Nx (upd H4 D (SetO w D (fun j => S j || decide (j = c)) (if S c = true then n else n + 1))) else Nx H3)
theorem pe_scI {elt tg iter : Expr} {ifs : List Expr} {scope : Scope} {own : List (Str × Nat)} {pos : Pos} {wi : TI} {g : TG} {tt : TT} {te : TE} (hc : X.calm = true) (hN : X.N.Nodup) (hi : PI X tg iter wi) (ok : BlkOk X.N X.env.scope scope own)
    (hg : ∀ (s : Shared) (H : Hp) (C : Addr) (cl : List (Str × Addr)) (fp : List Addr), PG (X.blk s H scope (compEnvC scope cl C X.env) fp) tg g) (ht : ∀ (s : Shared) (H : Hp) (C : Addr) (cl : List (Str × Addr)) (fp : List Addr), PTs (X.blk s H scope (compEnvC scope cl C X.env) fp) ifs tt)
    (he : ∀ (s : Shared) (H : Hp) (C : Addr) (cl : List (Str × Addr)) (fp : List Addr), PE (X.blk s H scope (compEnvC scope cl C X.env) fp) elt te) (hs : ∀ x, foldedSetIterable iter X.env x = pure x := by intro _; rfl) :
    PE X (.SetComp elt [⟨tg, iter, ifs, 0⟩] scope pos) (tScI X.w wi g tt te (own.map (·.2))) := by
  refine ⟨fun pins s σ H Q I h => ?_⟩
  rw [eval_SetComp]
  have hfree : ∀ y ∈ scope.names, y.2 = .free → ∃ c, X.env.cells.lookup y.1 = some c := fun y hy e => by
    rcases ok.free y hy e with k | k
    · exact I.ok.has _ (.inl k)
    · exact I.ok.has _ (.inr k)
  refine wpAny_comprehension_free rfl hs (closure_ok hfree) ok.kind (fun y hy e => by rw [ok.uniq y hy, e])
    (thn (hi.run pins s σ H _ I h) fun xv s1 hx => thn hx fun itv s2 h2 => ?_)
  obtain ⟨it, fp, tn, J, H2, e, I2, T, st2, f2, q⟩ := h2
  subst e
  refine newSet_ok (newEnv_comp ?_)
  generalize hD : s2.heap.objs.size = D
  have hDn : H2 D = none := I2.hok.fresh (Nat.le_of_eq hD)
  obtain ⟨W, ⟨m0, w0⟩, turn⟩ := q D hDn
  generalize hs3 : ({ s2 with heap := s2.heap.push { cls := .type "set", dict := none, data := .set #[] 0 (.fresh 0 0 (!X.w.params.followText "set-order")) } } : Shared) = s3
  have I3 : Inv X pins σ (upd H2 D (SetO X.w D (fun _ => false) 0)) s3 := by
    rw [← hs3]
    refine I2.laid (t' := s2.toks) (fun b o e => Heap.get?_push_of_some _ e) (Nat.le_of_eq hD) ?_
    rw [← hD]
    exact setO_new (setR_fresh X.w)
  have h3 : s3.heap = s2.heap.push { cls := .type "set", dict := none, data := .set #[] 0 (.fresh 0 0 (!X.w.params.followText "set-order")) } := by rw [← hs3]
  have sz : ∀ b ∈ fp, b < s2.heap.objs.size := fun b hb => by
    obtain ⟨o, e, _⟩ := T.obj _ _ st2 b hb
    exact Heap.lt_size e
  have f3 : ∀ b ∈ fp, FpOk X pins (upd H2 D (SetO X.w D (fun _ => false) 0)) b ∧ b < s3.heap.objs.size := fun b hb => by
    have hlt := sz b hb
    refine ⟨⟨?_, (f2 b hb).2⟩, by rw [h3, Heap.size_push]; exact Nat.lt_succ_of_lt hlt⟩
    rw [upd_ne (by rw [← hD]; exact Nat.ne_of_lt hlt)]
    exact (f2 b hb).1
  have st3 : tn 0 s3.heap := T.keep _ _ _ st2 fun b _ o e => by rw [h3]; exact Heap.get?_push_of_some _ e
  have I4 := block_start I3 ok hN f3
  have pg := hg s3 (upd H2 D (SetO X.w D (fun _ => false) 0)) s3.heap.objs.size (cellsFrom (s3.heap.objs.size + 1) scope.names (cloFrom X.env.cells scope.names [])) fp
  have pt := ht s3 (upd H2 D (SetO X.w D (fun _ => false) 0)) s3.heap.objs.size (cellsFrom (s3.heap.objs.size + 1) scope.names (cloFrom X.env.cells scope.names [])) fp
  have pe := he s3 (upd H2 D (SetO X.w D (fun _ => false) 0)) s3.heap.objs.size (cellsFrom (s3.heap.objs.size + 1) scope.names (cloFrom X.env.cells scope.names [])) fp
  show codeAny _ _ (.compStart (.SetComp elt [⟨tg, iter, ifs, 0⟩] scope pos) 0 (.ref it) (.ref D) (compEnvC scope (cellsFrom (s3.heap.objs.size + 1) scope.names (cloFrom X.env.cells scope.names [])) s3.heap.objs.size X.env)) (compPost (model X.prog X.w) X.A X.xe _ _ (.ref D) s3.heap.objs.size) { s3 with heap := pushCells (s3.heap.push { cls := .type "dict", data := .dict #[] }) scope.names }
  have nfp : ∀ b ∈ fp, (upd H2 D (SetO X.w D (fun _ => false) 0)) b = none := fun b hb => (f3 b hb).1.1
  generalize hce : compEnvC scope (cellsFrom (s3.heap.objs.size + 1) scope.names (cloFrom X.env.cells scope.names [])) s3.heap.objs.size X.env = ce at I4 pg pt pe ⊢
  have cL : ce.locals = s3.heap.objs.size := by subst hce; rfl
  generalize hH3 : upd H2 D (SetO X.w D (fun _ => false) 0) = H3 at I3 I4 pg pt pe w0 nfp f3
  generalize hs4 : ({ s3 with heap := pushCells (s3.heap.push { cls := .type "dict", data := .dict #[] }) scope.names } : Shared) = s4 at I4 ⊢
  have st4 : tn 0 s4.heap := T.keep _ _ _ st3 fun b _ o e => by rw [← hs4]; exact pushCells_keeps _ _ _ _ (Heap.get?_push_of_some _ e)
  have stat : ∀ {σ' : L2.St} {H' : Hp} {s' : Shared}, Inv (X.blk s3 H3 scope ce fp) [] σ' H' s' → (∀ b ∈ fp, H' b = none) → ∀ b ∈ fp, FpOk (X.blk s3 H3 scope ce fp) [] H' b := fun {σ' H' s'} I' hn b hb =>
    ⟨hn b hb, (I'.ok.exf b hb).1, I'.ok.exfs b hb, .inl hb, fun x c e => (I'.ok.exf b hb).2 x c e, fun p hp => absurd (show p ∈ ([] : List (Addr × Obj)) ++ [] from hp) (by simp)⟩
  have loop : codeAny (model X.prog X.w) X.A (.compLoop (.SetComp elt [⟨tg, iter, ifs, 0⟩] scope pos) 0 (.ref it) (.ref D) ce) (compPost (model X.prog X.w) X.A X.xe none (EP X pins σ Q) (.ref D) s3.heap.objs.size) s4 := by
    refine compLoopS_any (fun n s' => ∃ i H', Inv (X.blk s3 H3 scope ce fp) [] (wipe σ (own.map (·.2))) H' s' ∧ tn i s'.heap ∧ (∀ b ∈ fp, H' b = none) ∧ W i n H') ?_ m0 ⟨0, H3, I4, st4, nfp, w0⟩
    rintro n s5 ⟨i, H5, I5, st5, n5, w5⟩
    rcases turn i n H5 w5 with ⟨stop, qq⟩ | ⟨go, Nx, hNx, step⟩
    · have td := T.done (X.blk s3 H3 scope ce fp) rfl rfl rfl hc i [] s5 _ H5 (fun _ _ => False) I5 (stat I5 n5) st5 stop
      refine thnF td fun r s6 ⟨hr, I6⟩ => ?_
      subst hr
      have I7 : Inv X pins σ H5 s6 := I3.call' (ch := fp) I6.os I6.base I6.hok I6.bare fun b hb => ⟨(f3 b hb).1.2.2.2.1, (f3 b hb).1.2.1, (f3 b hb).1.2.2.2.2.1, (f3 b hb).1.2.2.2.2.2⟩
      have nC : H5 s3.heap.objs.size = none := by
        have z : H5 ce.locals = none := I6.free
        rw [cL] at z
        exact z
      obtain ⟨m, hn, _⟩ := I6.loc
      have hn : s6.heap.Ns ce.locals m := hn
      rw [cL] at hn
      refine ⟨m, hn, fun h'' sb => ?_⟩
      obtain ⟨f0, f1, f2, f3', f4, f5⟩ := I3.fpOk (Nat.le_refl _) nC
      exact ⟨.ref D, H5, I7.turned (t' := s6.toks) (fun b o hb e => (sb.2 b hb).trans e) f0 f1 f3' f4 f5, rfl, qq⟩
    · have ti := T.item (X.blk s3 H3 scope ce fp) rfl rfl rfl hc i [] s5 _ H5 (fun _ _ => False) I5 (stat I5 n5) st5 go
      refine thnF ti fun r s6 ⟨u, hr, h6⟩ => ?_
      subst hr
      refine thnF h6 fun _ s7 ⟨x, H7, I7, r7, y7, st7, n7⟩ => ?_
      have I7' := I7.pinned (stat I7 n7) (T.obj _ _ st7)
      refine thnF (pg.run _ s7 _ H7 x u _ I7' r7 (step x H7 y7)) fun _ s8 ⟨σ8, H8, I8, hw8, q8⟩ => ?_
      refine thnF (pt.run _ s8 σ8 H8 _ I8 q8) fun b s9 ⟨H9, I9, q9⟩ => ?_
      have fin : ∀ {s' : Shared} {H' : Hp}, Inv (X.blk s3 H3 scope ce fp) ([] ++ pinsAt fp s7.heap) σ8 H' s' → Nx H' → ∃ m, m < n ∧ ∃ i H', Inv (X.blk s3 H3 scope ce fp) [] (wipe σ (own.map (·.2))) H' s' ∧ tn i s'.heap ∧ (∀ b ∈ fp, H' b = none) ∧ W i m H' := fun {s' H'} I' nx => by
        obtain ⟨m', hm, w'⟩ := hNx H' nx
        have pin' : ∀ b ∈ fp, ∀ o, s7.heap.get? b = some o → s'.heap.get? b = some o ∧ H' b = none := fun b hb o e =>
          let z := I'.pin (b, o) (List.mem_append_right _ (List.mem_append_right _ (mem_pinsAt hb e)))
          ⟨z.1, z.2.1⟩
        have hl : (wipe σ (own.map (·.2))).length = σ8.length := by rw [← hw8, wipe_length]
        refine ⟨m', hm, i + 1, H', (I'.unpinned (pins := [])).weak hl (fun j v e => ?_), T.keep _ _ _ st7 fun b hb o e => (pin' b hb o e).1, fun b hb => ?_, w'⟩
        · rw [← hw8] at e
          exact (wipe_some e).1
        · obtain ⟨o, e, _⟩ := T.obj _ _ st7 b hb
          exact (pin' b hb o e).2
      cases b with
      | false =>
        simp only [Bool.false_eq_true, if_false] at q9 ⊢
        exact fin I9 q9
      | true =>
        simp only [if_true] at q9 ⊢
        refine thnF (pe.run _ s9 σ8 H9 _ I9 q9) fun z s10 ⟨yv, H10, I10, r10, cb, S0, n0, ey, hD10, hz10, nx⟩ => ?_
        subst ey
        obtain ⟨tk, rfl⟩ := r10
        exact addO_ok (X := X.blk s3 H3 scope ce fp) I10 hD10 hz10 fun s11 I11 => fin I11 nx
  exact codeAny_compStart_set loop (T.self X.A 0 _ _ _ st4 loop)
end
end Bw
end
section
set_option Elab.async false
set_option linter.all false
set_option maxRecDepth 100000
set_option maxHeartbeats 4000000
/-! The text by places; the facts that the head is asked for. Printed by tools/gen_text.py. -/
namespace Bw
open PySem L2
def top (i : Nat) : Stmt := PySem.Challenge.pw_bowkinds_k68_whole_leaving_and_greatest.main.body.getD i (.Pass ⟨0, 0, 0, 0⟩)
abbrev s_direction_of : Stmt := top 2
abbrev s_way_of : Stmt := top 3
abbrev s_turned_bow : Stmt := top 4
abbrev s_is_ahead : Stmt := top 6
abbrev s_behinds_of : Stmt := top 7
abbrev s_Pairing_init : Stmt := inClass (top 8) 0
abbrev s_Pairing_improve : Stmt := inClass (top 8) 1
abbrev s_Pairing_reached : Stmt := inClass (top 8) 4
abbrev s_unordered : Stmt := top 9
abbrev s_is_integer : Stmt := top 13
abbrev s_is_place : Stmt := top 14
abbrev s_is_bow : Stmt := top 15
abbrev s_are_bows : Stmt := top 16
abbrev s_is_way : Stmt := top 17
abbrev s_are_ways : Stmt := top 18
abbrev s_copies_of : Stmt := top 20
abbrev s_weights_of : Stmt := top 21
abbrev s_Ends_init : Stmt := inClass (top 22) 0
abbrev s_Ends_slack : Stmt := inClass (top 22) 1
abbrev s_Ends_settle : Stmt := inClass (top 22) 2
abbrev s_Ends_shift : Stmt := inClass (top 22) 3
abbrev s_Ends_flip : Stmt := inClass (top 22) 4
abbrev s_Ends_leave : Stmt := inClass (top 22) 5
abbrev s_Ends_chosen : Stmt := inClass (top 22) 7
abbrev s_unlike_ends : Stmt := top 23
abbrev s_most_at_an_end : Stmt := top 24
abbrev s_together : Stmt := top 31
abbrev s_levels_known : Stmt := top 33
abbrev s_long_chain : Stmt := top 34
abbrev s_Kind_init : Stmt := inClass (top 36) 0
abbrev s_Kind_ways : Stmt := inClass (top 36) 1
abbrev s_Kind_lets : Stmt := inClass (top 36) 3
abbrev s_Kind_contains : Stmt := inClass (top 36) 5
abbrev s_Kind_iter : Stmt := inClass (top 36) 7
abbrev s_Kind_invert : Stmt := inClass (top 36) 8
abbrev s_Kind_or : Stmt := inClass (top 36) 9
abbrev s_Row_init : Stmt := inClass (top 38) 0
abbrev s_Row_bows : Stmt := inClass (top 38) 1
abbrev s_Row_need : Stmt := inClass (top 38) 2
abbrev s_Row_without : Stmt := inClass (top 38) 4
abbrev s_Row_turned : Stmt := inClass (top 38) 7
abbrev s_Row_getitem : Stmt := inClass (top 38) 10
abbrev s_Row_len : Stmt := inClass (top 38) 11
abbrev s_Row_iter : Stmt := inClass (top 38) 12
abbrev s_is_ring : Stmt := top 41
abbrev s_known_rings : Stmt := top 42
abbrev s_ring_for : Stmt := top 43
abbrev s_is_tight : Stmt := top 44
abbrev s_need_paper : Stmt := top 47
abbrev s_at_one_end : Stmt := top 48
abbrev s_crowd_of : Stmt := top 49
abbrev s_web_of : Stmt := top 51
abbrev s_all_layers : Stmt := top 52
abbrev s_greatest_layers : Stmt := top 53
abbrev s_full_layers : Stmt := top 54
abbrev s_greatest_layer : Stmt := top 55
abbrev s_mask_of : Stmt := top 58
abbrev s_indexes_of : Stmt := top 59
abbrev s_layer_masks : Stmt := top 60
abbrev s_fewest_table : Stmt := top 61
abbrev s_left_values : Stmt := top 62
abbrev s_weighty_bows : Stmt := top 63
abbrev s_law_bag : Stmt := top 65
abbrev s_law_take : Stmt := top 66
abbrev s_law_one : Stmt := top 67
abbrev s_law_all_ways : Stmt := top 68
abbrev s_law_bow : Stmt := top 69
abbrev s_law_bows : Stmt := top 70
abbrev s_law_spread : Stmt := top 71
abbrev s_law_ways_drawn : Stmt := top 72
abbrev s_law_tight_sets : Stmt := top 73
abbrev s_law_other : Stmt := top 74
abbrev s_law_tight_ways : Stmt := top 75
abbrev s_law_kind_drawn : Stmt := top 76
abbrev s_law_row_drawn : Stmt := top 77
abbrev s_law_at : Stmt := top 78
abbrev s_law_falls : Stmt := top 79
abbrev s_law : Stmt := top 80
def d_direction_of : He.DefD := ⟨("direction_of", none), "direction_of", "direction_of", defArgs s_direction_of, defBody s_direction_of, defScope s_direction_of, [], []⟩
def d_way_of : He.DefD := ⟨("way_of", none), "way_of", "way_of", defArgs s_way_of, defBody s_way_of, defScope s_way_of, [], []⟩
def d_turned_bow : He.DefD := ⟨("turned_bow", none), "turned_bow", "turned_bow", defArgs s_turned_bow, defBody s_turned_bow, defScope s_turned_bow, [], []⟩
def d_is_ahead : He.DefD := ⟨("is_ahead", none), "is_ahead", "is_ahead", defArgs s_is_ahead, defBody s_is_ahead, defScope s_is_ahead, [], [("same", .bl false)]⟩
def d_behinds_of : He.DefD := ⟨("behinds_of", none), "behinds_of", "behinds_of", defArgs s_behinds_of, defBody s_behinds_of, defScope s_behinds_of, [], []⟩
def d_Pairing_init : He.DefD := ⟨("Pairing", some "__init__"), "__init__", "Pairing.__init__", defArgs s_Pairing_init, defBody s_Pairing_init, defScope s_Pairing_init, [], []⟩
def d_Pairing_improve : He.DefD := ⟨("Pairing", some "improve"), "improve", "Pairing.improve", defArgs s_Pairing_improve, defBody s_Pairing_improve, defScope s_Pairing_improve, [], []⟩
def d_Pairing_reached : He.DefD := ⟨("Pairing", some "reached"), "reached", "Pairing.reached", defArgs s_Pairing_reached, defBody s_Pairing_reached, defScope s_Pairing_reached, [], []⟩
def d_unordered : He.DefD := ⟨("unordered", none), "unordered", "unordered", defArgs s_unordered, defBody s_unordered, defScope s_unordered, [], [("same", .bl false)]⟩
def d_is_integer : He.DefD := ⟨("is_integer", none), "is_integer", "is_integer", defArgs s_is_integer, defBody s_is_integer, defScope s_is_integer, [], []⟩
def d_is_place : He.DefD := ⟨("is_place", none), "is_place", "is_place", defArgs s_is_place, defBody s_is_place, defScope s_is_place, [], []⟩
def d_is_bow : He.DefD := ⟨("is_bow", none), "is_bow", "is_bow", defArgs s_is_bow, defBody s_is_bow, defScope s_is_bow, [], []⟩
def d_are_bows : He.DefD := ⟨("are_bows", none), "are_bows", "are_bows", defArgs s_are_bows, defBody s_are_bows, defScope s_are_bows, [], []⟩
def d_is_way : He.DefD := ⟨("is_way", none), "is_way", "is_way", defArgs s_is_way, defBody s_is_way, defScope s_is_way, [], []⟩
def d_are_ways : He.DefD := ⟨("are_ways", none), "are_ways", "are_ways", defArgs s_are_ways, defBody s_are_ways, defScope s_are_ways, [], []⟩
def d_copies_of : He.DefD := ⟨("copies_of", none), "copies_of", "copies_of", defArgs s_copies_of, defBody s_copies_of, defScope s_copies_of, [], []⟩
def d_weights_of : He.DefD := ⟨("weights_of", none), "weights_of", "weights_of", defArgs s_weights_of, defBody s_weights_of, defScope s_weights_of, [], []⟩
def d_Ends_init : He.DefD := ⟨("Ends", some "__init__"), "__init__", "Ends.__init__", defArgs s_Ends_init, defBody s_Ends_init, defScope s_Ends_init, [], []⟩
def d_Ends_slack : He.DefD := ⟨("Ends", some "slack"), "slack", "Ends.slack", defArgs s_Ends_slack, defBody s_Ends_slack, defScope s_Ends_slack, [], []⟩
def d_Ends_settle : He.DefD := ⟨("Ends", some "settle"), "settle", "Ends.settle", defArgs s_Ends_settle, defBody s_Ends_settle, defScope s_Ends_settle, [], []⟩
def d_Ends_shift : He.DefD := ⟨("Ends", some "shift"), "shift", "Ends.shift", defArgs s_Ends_shift, defBody s_Ends_shift, defScope s_Ends_shift, [], []⟩
def d_Ends_flip : He.DefD := ⟨("Ends", some "flip"), "flip", "Ends.flip", defArgs s_Ends_flip, defBody s_Ends_flip, defScope s_Ends_flip, [], []⟩
def d_Ends_leave : He.DefD := ⟨("Ends", some "leave"), "leave", "Ends.leave", defArgs s_Ends_leave, defBody s_Ends_leave, defScope s_Ends_leave, [], []⟩
def d_Ends_chosen : He.DefD := ⟨("Ends", some "chosen"), "chosen", "Ends.chosen", defArgs s_Ends_chosen, defBody s_Ends_chosen, defScope s_Ends_chosen, [], []⟩
def d_unlike_ends : He.DefD := ⟨("unlike_ends", none), "unlike_ends", "unlike_ends", defArgs s_unlike_ends, defBody s_unlike_ends, defScope s_unlike_ends, [], [("same", .bl false)]⟩
def d_most_at_an_end : He.DefD := ⟨("most_at_an_end", none), "most_at_an_end", "most_at_an_end", defArgs s_most_at_an_end, defBody s_most_at_an_end, defScope s_most_at_an_end, [], [("same", .bl false)]⟩
def d_together : He.DefD := ⟨("together", none), "together", "together", defArgs s_together, defBody s_together, defScope s_together, [], []⟩
def d_levels_known : He.DefD := ⟨("levels_known", none), "levels_known", "levels_known", defArgs s_levels_known, defBody s_levels_known, defScope s_levels_known, [], []⟩
def d_long_chain : He.DefD := ⟨("long_chain", none), "long_chain", "long_chain", defArgs s_long_chain, defBody s_long_chain, defScope s_long_chain, [], [("same", .bl false)]⟩
def d_Kind_init : He.DefD := ⟨("Kind", some "__init__"), "__init__", "Kind.__init__", defArgs s_Kind_init, defBody s_Kind_init, defScope s_Kind_init, [], []⟩
def d_Kind_ways : He.DefD := ⟨("Kind", some "ways"), "ways", "Kind.ways", defArgs s_Kind_ways, defBody s_Kind_ways, defScope s_Kind_ways, [], []⟩
def d_Kind_lets : He.DefD := ⟨("Kind", some "lets"), "lets", "Kind.lets", defArgs s_Kind_lets, defBody s_Kind_lets, defScope s_Kind_lets, [], []⟩
def d_Kind_contains : He.DefD := ⟨("Kind", some "__contains__"), "__contains__", "Kind.__contains__", defArgs s_Kind_contains, defBody s_Kind_contains, defScope s_Kind_contains, [], []⟩
def d_Kind_iter : He.DefD := ⟨("Kind", some "__iter__"), "__iter__", "Kind.__iter__", defArgs s_Kind_iter, defBody s_Kind_iter, defScope s_Kind_iter, [], []⟩
def d_Kind_invert : He.DefD := ⟨("Kind", some "__invert__"), "__invert__", "Kind.__invert__", defArgs s_Kind_invert, defBody s_Kind_invert, defScope s_Kind_invert, [], []⟩
def d_Kind_or : He.DefD := ⟨("Kind", some "__or__"), "__or__", "Kind.__or__", defArgs s_Kind_or, defBody s_Kind_or, defScope s_Kind_or, [], []⟩
def d_Row_init : He.DefD := ⟨("Row", some "__init__"), "__init__", "Row.__init__", defArgs s_Row_init, defBody s_Row_init, defScope s_Row_init, [], []⟩
def d_Row_bows : He.DefD := ⟨("Row", some "bows"), "bows", "Row.bows", defArgs s_Row_bows, defBody s_Row_bows, defScope s_Row_bows, [], []⟩
def d_Row_need : He.DefD := ⟨("Row", some "need"), "need", "Row.need", defArgs s_Row_need, defBody s_Row_need, defScope s_Row_need, [], []⟩
def d_Row_without : He.DefD := ⟨("Row", some "without"), "without", "Row.without", defArgs s_Row_without, defBody s_Row_without, defScope s_Row_without, [], []⟩
def d_Row_turned : He.DefD := ⟨("Row", some "turned"), "turned", "Row.turned", defArgs s_Row_turned, defBody s_Row_turned, defScope s_Row_turned, [], []⟩
def d_Row_getitem : He.DefD := ⟨("Row", some "__getitem__"), "__getitem__", "Row.__getitem__", defArgs s_Row_getitem, defBody s_Row_getitem, defScope s_Row_getitem, [], []⟩
def d_Row_len : He.DefD := ⟨("Row", some "__len__"), "__len__", "Row.__len__", defArgs s_Row_len, defBody s_Row_len, defScope s_Row_len, [], []⟩
def d_Row_iter : He.DefD := ⟨("Row", some "__iter__"), "__iter__", "Row.__iter__", defArgs s_Row_iter, defBody s_Row_iter, defScope s_Row_iter, [], []⟩
def d_is_ring : He.DefD := ⟨("is_ring", none), "is_ring", "is_ring", defArgs s_is_ring, defBody s_is_ring, defScope s_is_ring, [], []⟩
def d_known_rings : He.DefD := ⟨("known_rings", none), "known_rings", "known_rings", defArgs s_known_rings, defBody s_known_rings, defScope s_known_rings, [], []⟩
def d_ring_for : He.DefD := ⟨("ring_for", none), "ring_for", "ring_for", defArgs s_ring_for, defBody s_ring_for, defScope s_ring_for, [], []⟩
def d_is_tight : He.DefD := ⟨("is_tight", none), "is_tight", "is_tight", defArgs s_is_tight, defBody s_is_tight, defScope s_is_tight, [], []⟩
def d_need_paper : He.DefD := ⟨("need_paper", none), "need_paper", "need_paper", defArgs s_need_paper, defBody s_need_paper, defScope s_need_paper, [], []⟩
def d_at_one_end : He.DefD := ⟨("at_one_end", none), "at_one_end", "at_one_end", defArgs s_at_one_end, defBody s_at_one_end, defScope s_at_one_end, [], []⟩
def d_crowd_of : He.DefD := ⟨("crowd_of", none), "crowd_of", "crowd_of", defArgs s_crowd_of, defBody s_crowd_of, defScope s_crowd_of, [], []⟩
def d_web_of : He.DefD := ⟨("web_of", none), "web_of", "web_of", defArgs s_web_of, defBody s_web_of, defScope s_web_of, [], []⟩
def d_all_layers : He.DefD := ⟨("all_layers", none), "all_layers", "all_layers", defArgs s_all_layers, defBody s_all_layers, defScope s_all_layers, [], []⟩
def d_greatest_layers : He.DefD := ⟨("greatest_layers", none), "greatest_layers", "greatest_layers", defArgs s_greatest_layers, defBody s_greatest_layers, defScope s_greatest_layers, [], []⟩
def d_full_layers : He.DefD := ⟨("full_layers", none), "full_layers", "full_layers", defArgs s_full_layers, defBody s_full_layers, defScope s_full_layers, [], []⟩
def d_greatest_layer : He.DefD := ⟨("greatest_layer", none), "greatest_layer", "greatest_layer", defArgs s_greatest_layer, defBody s_greatest_layer, defScope s_greatest_layer, [], []⟩
def d_mask_of : He.DefD := ⟨("mask_of", none), "mask_of", "mask_of", defArgs s_mask_of, defBody s_mask_of, defScope s_mask_of, [], []⟩
def d_indexes_of : He.DefD := ⟨("indexes_of", none), "indexes_of", "indexes_of", defArgs s_indexes_of, defBody s_indexes_of, defScope s_indexes_of, [], []⟩
def d_layer_masks : He.DefD := ⟨("layer_masks", none), "layer_masks", "layer_masks", defArgs s_layer_masks, defBody s_layer_masks, defScope s_layer_masks, [], []⟩
def d_fewest_table : He.DefD := ⟨("fewest_table", none), "fewest_table", "fewest_table", defArgs s_fewest_table, defBody s_fewest_table, defScope s_fewest_table, [], []⟩
def d_left_values : He.DefD := ⟨("left_values", none), "left_values", "left_values", defArgs s_left_values, defBody s_left_values, defScope s_left_values, [], []⟩
def d_weighty_bows : He.DefD := ⟨("weighty_bows", none), "weighty_bows", "weighty_bows", defArgs s_weighty_bows, defBody s_weighty_bows, defScope s_weighty_bows, [], []⟩
def d_law_bag : He.DefD := ⟨("_law_bag", none), "_law_bag", "_law_bag", defArgs s_law_bag, defBody s_law_bag, defScope s_law_bag, [], []⟩
def d_law_take : He.DefD := ⟨("_law_take", none), "_law_take", "_law_take", defArgs s_law_take, defBody s_law_take, defScope s_law_take, [], []⟩
def d_law_one : He.DefD := ⟨("_law_one", none), "_law_one", "_law_one", defArgs s_law_one, defBody s_law_one, defScope s_law_one, [], []⟩
def d_law_all_ways : He.DefD := ⟨("_law_all_ways", none), "_law_all_ways", "_law_all_ways", defArgs s_law_all_ways, defBody s_law_all_ways, defScope s_law_all_ways, [], []⟩
def d_law_bow : He.DefD := ⟨("_law_bow", none), "_law_bow", "_law_bow", defArgs s_law_bow, defBody s_law_bow, defScope s_law_bow, [], []⟩
def d_law_bows : He.DefD := ⟨("_law_bows", none), "_law_bows", "_law_bows", defArgs s_law_bows, defBody s_law_bows, defScope s_law_bows, [], []⟩
def d_law_spread : He.DefD := ⟨("_law_spread", none), "_law_spread", "_law_spread", defArgs s_law_spread, defBody s_law_spread, defScope s_law_spread, [], []⟩
def d_law_ways_drawn : He.DefD := ⟨("_law_ways_drawn", none), "_law_ways_drawn", "_law_ways_drawn", defArgs s_law_ways_drawn, defBody s_law_ways_drawn, defScope s_law_ways_drawn, [], []⟩
def d_law_tight_sets : He.DefD := ⟨("_law_tight_sets", none), "_law_tight_sets", "_law_tight_sets", defArgs s_law_tight_sets, defBody s_law_tight_sets, defScope s_law_tight_sets, [], []⟩
def d_law_other : He.DefD := ⟨("_law_other", none), "_law_other", "_law_other", defArgs s_law_other, defBody s_law_other, defScope s_law_other, [], []⟩
def d_law_tight_ways : He.DefD := ⟨("_law_tight_ways", none), "_law_tight_ways", "_law_tight_ways", defArgs s_law_tight_ways, defBody s_law_tight_ways, defScope s_law_tight_ways, [], []⟩
def d_law_kind_drawn : He.DefD := ⟨("_law_kind_drawn", none), "_law_kind_drawn", "_law_kind_drawn", defArgs s_law_kind_drawn, defBody s_law_kind_drawn, defScope s_law_kind_drawn, [], []⟩
def d_law_row_drawn : He.DefD := ⟨("_law_row_drawn", none), "_law_row_drawn", "_law_row_drawn", defArgs s_law_row_drawn, defBody s_law_row_drawn, defScope s_law_row_drawn, [], []⟩
def d_law_at : He.DefD := ⟨("_law_at", none), "_law_at", "_law_at", defArgs s_law_at, defBody s_law_at, defScope s_law_at, [], []⟩
def d_law_falls : He.DefD := ⟨("_law_falls", none), "_law_falls", "_law_falls", defArgs s_law_falls, defBody s_law_falls, defScope s_law_falls, [], []⟩
def d_law : He.DefD := ⟨("law", none), "law", "law", defArgs s_law, defBody s_law, defScope s_law, [], []⟩
def fn : List He.DefD := [d_direction_of, d_way_of, d_turned_bow, d_is_ahead, d_behinds_of, d_Pairing_init, d_Pairing_improve, d_Pairing_reached, d_unordered, d_is_integer, d_is_place, d_is_bow, d_are_bows, d_is_way, d_are_ways, d_copies_of, d_weights_of, d_Ends_init, d_Ends_slack, d_Ends_settle, d_Ends_shift, d_Ends_flip, d_Ends_leave, d_Ends_chosen, d_unlike_ends, d_most_at_an_end, d_together, d_levels_known, d_long_chain, d_Kind_init, d_Kind_ways, d_Kind_lets, d_Kind_contains, d_Kind_iter, d_Kind_invert, d_Kind_or, d_Row_init, d_Row_bows, d_Row_need, d_Row_without, d_Row_turned, d_Row_getitem, d_Row_len, d_Row_iter, d_is_ring, d_known_rings, d_ring_for, d_is_tight, d_need_paper, d_at_one_end, d_crowd_of, d_web_of, d_all_layers, d_greatest_layers, d_full_layers, d_greatest_layer, d_mask_of, d_indexes_of, d_layer_masks, d_fewest_table, d_left_values, d_weighty_bows, d_law_bag, d_law_take, d_law_one, d_law_all_ways, d_law_bow, d_law_bows, d_law_spread, d_law_ways_drawn, d_law_tight_sets, d_law_other, d_law_tight_ways, d_law_kind_drawn, d_law_row_drawn, d_law_at, d_law_falls, d_law]
def fa : List He.Fa := [.glo "direction_of",
  .glo "way_of",
  .glo "turned_bow",
  .glo "is_ahead",
  .glo "behinds_of",
  .glo "unordered",
  .glo "is_integer",
  .glo "is_place",
  .glo "is_bow",
  .glo "are_bows",
  .glo "is_way",
  .glo "are_ways",
  .glo "copies_of",
  .glo "weights_of",
  .glo "unlike_ends",
  .glo "most_at_an_end",
  .glo "together",
  .glo "levels_known",
  .glo "long_chain",
  .glo "is_ring",
  .glo "known_rings",
  .glo "ring_for",
  .glo "is_tight",
  .glo "need_paper",
  .glo "at_one_end",
  .glo "crowd_of",
  .glo "web_of",
  .glo "all_layers",
  .glo "greatest_layers",
  .glo "full_layers",
  .glo "greatest_layer",
  .glo "mask_of",
  .glo "indexes_of",
  .glo "layer_masks",
  .glo "fewest_table",
  .glo "left_values",
  .glo "weighty_bows",
  .glo "_law_bag",
  .glo "_law_take",
  .glo "_law_one",
  .glo "_law_all_ways",
  .glo "_law_bow",
  .glo "_law_bows",
  .glo "_law_spread",
  .glo "_law_ways_drawn",
  .glo "_law_tight_sets",
  .glo "_law_other",
  .glo "_law_tight_ways",
  .glo "_law_kind_drawn",
  .glo "_law_row_drawn",
  .glo "_law_at",
  .glo "_law_falls",
  .glo "law",
  .glo "Pairing",
  .cls "Pairing",
  .noat "Pairing" "its_behinds",
  .noat "Pairing" "its_nexts",
  .noat "Pairing" "its_lasts",
  .mkr "Pairing",
  .glo "Ends",
  .cls "Ends",
  .noat "Ends" "its_weights",
  .noat "Ends" "its_begins",
  .noat "Ends" "its_ends",
  .noat "Ends" "its_mates",
  .noat "Ends" "its_partners",
  .mkr "Ends",
  .glo "Kind",
  .cls "Kind",
  .noat "Kind" "its_ways",
  .mkr "Kind",
  .glo "Row",
  .cls "Row",
  .noat "Row" "its_bows",
  .mkr "Row",
  .meth "Pairing" "improve",
  .meth "Pairing" "reached",
  .meth "Ends" "slack",
  .meth "Ends" "settle",
  .meth "Ends" "shift",
  .meth "Ends" "flip",
  .meth "Ends" "leave",
  .meth "Ends" "chosen",
  .meth "Kind" "ways",
  .meth "Kind" "lets",
  .meth "Kind" "__contains__",
  .meth "Kind" "__iter__",
  .meth "Kind" "__invert__",
  .meth "Kind" "__or__",
  .meth "Row" "bows",
  .meth "Row" "need",
  .meth "Row" "without",
  .meth "Row" "turned",
  .meth "Row" "__getitem__",
  .meth "Row" "__len__",
  .meth "Row" "__iter__",
  .noat "Kind" "__ror__",
  .int "MOST_PLACE" (10 ^ 30),
  .int "MOST_TRIED" 10,
  .glo "WAYS",
  .glo "RINGS",
  .glo "AHEAD",
  .free "len",
  .free "range",
  .free "isinstance",
  .free "int",
  .free "bool",
  .free "list",
  .free "tuple",
  .free "str",
  .free "all",
  .free "any",
  .free "sorted",
  .free "set",
  .free "enumerate",
  .free "max",
  .free "min",
  .free "sum",
  .free "iter",
  .free "abs"]
end Bw
end
section
set_option Elab.async false
set_option linter.all false
set_option maxRecDepth 100000
set_option maxHeartbeats 0
namespace Bw
open PySem PySem.Spec PyProof.Rows L2
def loose1 : List Str := ["_wall", "__name__", "direction_of", "way_of", "turned_bow", "is_ahead", "behinds_of", "Pairing", "unordered", "MOST_PLACE", "WAYS", "is_integer", "is_place", "is_bow", "are_bows", "is_way", "are_ways", "copies_of", "weights_of", "Ends", "unlike_ends", "most_at_an_end", "BowError", "Wrong", "NoBow", "NotTight", "together", "levels_known", "long_chain", "Kind", "Row", "RINGS"]
def loose2 : List Str := ["is_ring", "known_rings", "ring_for", "is_tight", "AHEAD", "need_paper", "at_one_end", "crowd_of", "web_of", "all_layers", "greatest_layers", "full_layers", "greatest_layer", "MOST_TRIED", "mask_of", "indexes_of", "layer_masks", "fewest_table", "left_values", "weighty_bows"]
def loose3 : List Str := ["_law_bag", "_law_take", "_law_one", "_law_all_ways", "_law_bow", "_law_bows", "_law_spread", "_law_ways_drawn", "_law_tight_sets", "_law_other", "_law_tight_ways", "_law_kind_drawn", "_law_row_drawn", "_law_at", "_law_falls"]
def loose : List Str := loose1 ++ (loose2 ++ loose3)
def ways7 : List Str := ["apart", "begun", "chained", "crossing", "ended", "same", "within"]
def aheadK : List Str := ["apart", "begun", "chained", "crossing", "ended"]
def aheadD : List (Str × He.Dv) := [("apart", .str "before"), ("begun", .str "starts"), ("chained", .str "meets"), ("crossing", .str "crosses"), ("ended", .str "finished")]
def rings : List (List (Int × Int)) := [[(0, 1), (1, 3), (3, 4), (2, 3), (1, 2)], [(0, 3), (2, 5), (4, 7), (6, 9), (1, 8)], [(0, 1), (0, 2), (2, 3), (3, 4), (1, 3)], [(0, 1), (1, 2), (2, 3), (3, 4), (0, 4)], [(0, 7), (1, 2), (0, 4), (3, 7), (5, 6)], [(0, 4), (5, 6), (2, 3), (4, 8), (1, 7)]]
/-- the items of a tuple of the written part -/
def tupK (K : PySem.W.Frag) (a : Addr) : Option (List Value) := match K.lookup a with
  | some ⟨.type c, _, .seq its _, _⟩ => (match decide (c = "tuple") && decide (its.size ≤ sizeLine) with
    | true => some its.toList
    | false => none)
  | _ => none
def bowB (K : PySem.W.Frag) (u : Value) (b : Int × Int) : Bool := match u with
  | .ref a => (match tupK K a with
    | some us => He.relAll [.int b.1, .int b.2] us
    | none => false)
  | _ => false
def allB {α β : Type} (p : α → β → Bool) : List α → List β → Bool
  | [], [] => true
  | x :: xs, y :: ys => p x y && allB p xs ys
  | _, _ => false
def ringB (K : PySem.W.Frag) (u : Value) (r : List (Int × Int)) : Bool := match u with
  | .ref a => (match tupK K a with
    | some us => allB (bowB K) us r
    | none => false)
  | _ => false
def moreB (K : PySem.W.Frag) : Bool := (PySem.W.fnIn K (He.ma K (He.ga K "Row") "__getitem__") && PySem.W.selfFirst K (He.ga K "Kind")) && (He.tupB K "WAYS" (ways7.map .str) && (He.valsB K (He.ga K "AHEAD") aheadD && (match tupK K (He.ga K "RINGS") with
  | some us => allB (ringB K) us rings
  | none => false)))
def tabs : List He.Tab := [(fun K => He.ga K "AHEAD", aheadK)]
abbrev R : PySem.W.OpenRow := PySem.W.OpenLaw.row PySem.Challenge.rw_bowkinds_k68_whole_leaving_and_greatest
/-- the objects that are reached by names, level by level -/
def asF (g : Addr → Option Obj) : Nat → List Addr → List Addr
  | 0, l => l
  | n + 1, l => l ++ asF g n (l.flatMap fun a => match g a with
    | some o => He.refsD o
    | none => [])
def frF (g : Addr → Option Obj) : PySem.W.Frag := He.frT g (asF g 4 [mainGlobals])
abbrev AlF : Type := He.AlT × Bool
def obsF (g : Addr → Option Obj) : AlF := (fun K => (He.obsT fa fn tabs K, moreB K)) (frF g)
def valF (w : World) : AlF := (He.valT fn tabs w, true)
/-- what the walk leans on -/
def Says (w : World) (K : PySem.W.Frag) : Prop := He.SaysT fa fn tabs w K ∧ moreB K = true
def hk : PySem.W.Hook where
  α := AlF
  obs := fun s => obsF s.heap.get?
  val := fun w => valF w
  says := fun w h => ∃ K : PySem.W.Frag, K.In h ∧ Says w K
  of := fun _ _ e => ⟨_, He.frT_in, congrArg (fun z : AlF => z.1) e, congrArg (fun z : AlF => z.2) e⟩
  keeps := fun _ _ _ ⟨K, hK, c⟩ k => ⟨K, PySem.W.Frag.In.keeps hK k, c⟩
def ob (s : PySem.W.SharedT) : AlF := obsF (HandSHeadRun.getT s)
theorem ob_eq (s : PySem.W.SharedT) : ob s = hk.obs s.abs := by
  have e : HandSHeadRun.getT s = s.abs.heap.get? := funext (HandSHeadRun.getT_eq s)
  unfold ob
  rw [e]
  rfl
theorem run0 (w : World) : HandSHeadRun.RunEq R (PySem.W.view R.prog [80]) hk ob 20000 loose (w.withFollow "special-get-raises" false) := by
  intro os
  kernel_rfl
theorem run1 (w : World) : HandSHeadRun.RunEq R (PySem.W.view R.prog [80]) hk ob 20000 loose (w.withFollow "special-get-raises" true) := by
  intro os
  kernel_rfl
theorem run (w : World) : HandSHeadRun.RunEq R (PySem.W.view R.prog [80]) hk ob 20000 loose w :=
  PySem.W.byRow2 "special-get-raises" (P := fun w => HandSHeadRun.RunEq R (PySem.W.view R.prog [80]) hk ob 20000 loose w) run0 run1 w
end Bw
end
section
set_option Elab.async false
set_option linter.all false
set_option maxRecDepth 100000
set_option maxHeartbeats 4000000
/-! for x in o, o an instance whose __iter__ is «return iter(self.f)». -/
namespace Bw
open PySem PySem.Spec PyProof.Rows L2 ItX
/-- what such an __iter__ does, its iterator's age told -/
def IterRun (P : Program) (w : World) (K : PySem.W.Frag) (mg : Str → Option Value) (base : Heap) (C f : Addr) (fld : Str) (k : Nat) : Prop :=
  ∀ (A : Around) (outer : List Env) (s : Shared) (H : Hp) (a dx l : Addr) (fs : List (Str × V)) (xs : List V), Room k A → Env0 P w K mg base A outer s H → H a = some (.ins C dx fs) → fs.lookup fld = some (.ref l) → SqL K H l xs →
    codeAny (model P w) A (.call (.ref f) ⟨[.ref a], []⟩) (fun r s' => ∃ it, r = .ok (.ret (.ref it)) ∧ s.heap.objs.size ≤ it ∧ H it = none ∧ CE outer P w H s (fun v H' => v = .ref it ∧ H' = upd H it (ItO l it 0)) (.ref it) s') s
theorem iter_run {P : Program} {w : World} {K : PySem.W.Frag} {mg : Str → Option Value} {base : Heap} {C f : Addr} {fd : FuncData} {qual fld : Str} {params : Arguments} {body : List Stmt} {scope : Scope} {p1 p2 p3 p4 p5 : Pos}
    (F : FunD K "__iter__" qual params body scope [] [] f fd) (S : FnScope ["self"] ["self"] scope) (hb : Binds K fd ["self"] []) (hbody : body = [.Return (some (.Call (.Name "iter" p1) [.Attribute (.Name "self" p2) fld p3] [] p4)) p5])
    (hl : scope.names.lookup ("self" : Str) = some .local) (hg : scope.names.lookup ("iter" : Str) = some .globalImplicit) (hm : mg "iter" = none) (c : Cls K C) (n : NoAttr K C fld) : IterRun P w K mg base C f fld 1 := by
  obtain ⟨oc, od, dV, kV, doc, pm, an, cdv, ct, osl, rfl, lk, hcd, _, _⟩ := F.ex
  intro A outer s H a dx l fs xs hr e0 ha hf hq
  have KX : K.In s.heap := e0.mod.kin.keeps fun b o e => (e0.bs b o e).1
  have lim : s.heap.NoLimit := e0.mod.nolimit.keeps fun b o e => (e0.bs b o e).1
  have hbt : BindsTo s (PySem.W.fnOf "__iter__" qual params body scope dV kV doc pm an cdv ct) ⟨[.ref a], []⟩ ((["self"] : List Str).zip [Value.ref a]) := by
    have := hb s [.ref a] KX (by simp)
    simpa using this
  have hkind : ∀ y ∈ ((["self"] : List Str).zip [Value.ref a]), scope.names.lookup y.1 = some .local ∨ (scope.names.lookup y.1 = some .cell ∧ ((cellsFrom (s.heap.objs.size + 1) scope.names []).lookup y.1).isSome = true) := fun ⟨n, v⟩ hy => by
    rcases S.par n (List.of_mem_zip hy).1 with q | q
    · exact .inl q
    · exact .inr ⟨q, PySem.W.cellsFrom_some _ _ _ (.inl q)⟩
  refine codeAny_call_function hr.depth (KX _ _ lk) rfl S.co S.gen rfl (PySem.W.codeRec_of KX hcd) (hbt _ _ _ _ ?_)
  refine wpAny_newFunctionEnv_cells S.kind hkind fun env he s1 x => ?_
  subst he
  refine ⟨lim.keeps x.toInCall.keep, codeAny_func ?_⟩
  have I : Inv (cxOf CX0 P w K mg base ["self"] qual scope f cdv A outer s H E0) [] (start ["self"] [.ref a]) H s1 := inv_start S hr.hd e0 rfl (.cons rfl .nil) x
  have hP : PSs (cxOf CX0 P w K mg base ["self"] qual scope f cdv A outer s H E0) body (tRet (tCB (rIterN K s.heap.objs.size) (tCons (tFld K (tVar 0) fld) tNil))) := by
    rw [hbody]
    exact pss_one (ps_ret (pe_callB call_iterN hg hm (by decide +kernel) (pa_cons (pe_fld (pe_var rfl (.inl hl)) rfl) pa_nil)))
  refine wpAny_mono (hP.run [] s1 _ H { nx := fun _ _ => False, rt := fun v H' => ∃ it, v = .ref it ∧ s.heap.objs.size ≤ it ∧ H it = none ∧ H' = upd H it (ItO l it 0) } I ?_) (fun fl s' hs => ?_) fun e s' hs => ?_
  · exact ⟨_, rfl, a, C, dx, fs, _, rfl, ha, c, n, hf, l, xs, rfl, hq, fun it h1 h2 => ⟨it, rfl, h2, h1, rfl⟩⟩
  · cases fl with
    | ret u =>
      obtain ⟨v, σ', H', J, rv, it, rfl, h1, h2, rfl⟩ := hs
      cases rv
      exact ⟨it, rfl, h1, h2, .ref it, _, J.os, J.bare, J.base, J.hok, rfl, rfl, rfl⟩
    | next =>
      obtain ⟨σ', H', J, q⟩ := hs
      exact False.elim q
    | brk =>
      obtain ⟨_, _, _, q⟩ := hs
      exact False.elim q
    | cont =>
      obtain ⟨_, _, _, q⟩ := hs
      exact False.elim q
  · refine wpAny_mono hs (fun _ _ z => ?_) fun _ _ z => ?_
    · exact False.elim z
    · exact False.elim z
section
variable {X : Cx} {C f : Addr} {fld : Str} {k : Nat}
/-- iter(o): the list's iterator, then forgotten -/
theorem iter_own {A1 : Around} {pins : List (Addr × Obj)} {σ : L2.St} {H : Hp} {s : Shared} {a dx l : Addr} {fs : List (Str × V)} {xs : List V} {Q : Value → Shared → Prop} (sb : Sub X k A1) (R : IterRun X.prog X.w X.K X.mg X.base C f fld k) (hs : PySem.W.findIn X.K (.ref C) "__iter__" = some (some (.ref f))) (hfn : PySem.W.isFn X.K (.ref f) = true)
    (I : Inv X pins σ H s) (ha : H a = some (.ins C dx fs)) (hf : fs.lookup fld = some (.ref l)) (hq : SqL X.K H l xs)
    (h : ∀ it s', Inv X pins σ H s' → FpOk X pins H it → s'.heap.get? it = some (GNX.itObj l 0) → Q (.ref it) s') : wpAny (model X.prog X.w) A1 (pyIter (.ref a)) Q X.xe s := by
  obtain ⟨od, J⟩ := inst_at I ha
  obtain ⟨m, hF⟩ := I.fr
  have e0 : Env0 X.prog X.w X.K X.mg X.base A1 X.stack s H := by
    have e := I.env0
    exact ⟨by rw [sb.fr]; exact e.frames, e.mod, e.bs, e.bsz, e.funs, e.frf, e.hok, e.bare⟩
  refine PySem.W.owit_iter hF I.ok.mod.kin J hs hfn ?_
  refine wpAny_call (codeAny_mono (R A1 X.stack s H a dx l fs xs sb.room e0 ha hf hq) fun r s' hq' => ?_)
  obtain ⟨it, rfl, hsz, hn, ce⟩ := hq'
  show PySem.W.OwitIt _ _ _ _ (.ref it) s'
  obtain ⟨v, H', I', rv, rfl, rfl⟩ := I.after ce
  have ei : upd H it (ItO l it 0) it = some (ItO l it 0) := upd_same
  have eo := itO_get I' ei
  have hT : s'.TypeIs (.ref it) "list_iterator" := ⟨_, eo, rfl⟩
  have ei' := ei
  unfold ItO at ei'
  have I2 := inv_drop I' ei'
  have fp := inv_fp I' ei (Nat.le_trans I.sz hsz)
  rw [show dropH (upd H it (ItO l it 0)) it = H from dropH_upd hn] at I2 fp
  unfold PySem.W.OwitIt
  refine wpAny_specialOf (name := Str.ofString "__next__") hT slot_listiter_next.lookup ?_
  exact h it s' I2 fp eo
def iOwn (K : PySem.W.Frag) (C : Addr) (fld : Str) (te : TE) : TI := fun σ H R => te σ H fun x H1 => ∃ a dx l fs xs, x = .ref a ∧ H1 a = some (.ins C dx fs) ∧ fs.lookup fld = some (.ref l) ∧ SqL K H1 l xs ∧ R (Itl K l) H1
/-- for x in o -/
theorem pi_own {tg e : Expr} {te : TE} (R : IterRun X.prog X.w X.K X.mg X.base C f fld k) (hs : PySem.W.findIn X.K (.ref C) "__iter__" = some (some (.ref f))) (hfn : PySem.W.isFn X.K (.ref f) = true) (hr : Room k X.A) (he : PE X e te) : PI X tg e (iOwn X.K C fld te) := by
  refine ⟨fun pins s σ H R' I h => ?_⟩
  refine thn (he.run pins s σ H _ I h) fun u s1 ⟨x, H1, I1, rx, a, dx, l, fs, xs, ex, ha, hf, hq, q⟩ => ?_
  subst ex
  cases rx
  refine iter_own ⟨hr, rfl⟩ R hs hfn I1 ha hf hq fun it s' I2 fp eo => ?_
  refine ⟨it, [it], _, _, H1, rfl, I2, turn_list l it, ⟨_, eo, rfl, rfl⟩, fun b hb => ?_, q⟩
  have e : b = it := by simpa using hb
  rw [e]
  exact fp
end
end Bw
end
section
set_option Elab.async false
set_option linter.all false
set_option maxRecDepth 100000
set_option maxHeartbeats 4000000
/-! for i, x in enumerate(o), o an instance whose __iter__ is «return iter(self.f)». -/
namespace Bw
open PySem PySem.Spec PyProof.Rows L2 ItX
/-- the new enumerate over the iterator at it -/
def enumOb (it : Addr) : Obj := { cls := .type "enumerate", data := .fields #[.none, .bool false, .ref it, rawInt 0, .none, .none] }
theorem enum_new {prog : Program} {w : World} (v : Value) :
    MeetsIn prog w (Builtin.«enumerate.__new__» ⟨[.type "enumerate", v], []⟩) (fun A R s =>
      wpAny (model prog w) A.in1 (pyIter v) (fun itv s1 => ∃ it, itv = .ref it ∧ R (.ok (.ret (.ref s1.heap.objs.size))) { s1 with heap := s1.heap.push (enumOb it) }) (fun e s' => R (.error e) s') s) := by
  intro A R s h
  have hsub := sub_enumerate
  have q1 : ∀ {Q : Value → Shared → Prop}, (∀ it s1, R (.ok (.ret (.ref s1.heap.objs.size))) { s1 with heap := s1.heap.push (enumOb it) } → Q (.ref it) s1) → wpAny (model prog w) A.in1 (pyIter v) Q (fun e s' => R (.error e) s') s := fun hq =>
    wpAny_mono h (fun itv s1 ⟨it, e, r⟩ => by subst e; exact hq it s1 r) fun _ _ z => z
  obtain ⟨hp, g, d, tk, os⟩ := s
  wp_walk using q1
  refine wpAny_stack_any fun st => wpAny_pure ?_
  split
  · rename_i c _ _ _ _ _
    cases (c == Value.type "enumerate")
    · wp_walk using q1
      intro it s1 hr
      obtain ⟨hp1, g1, d1, tk1, os1⟩ := s1
      wp_walk
      exact hr
    · wp_walk using q1
      intro it s1 hr
      obtain ⟨hp1, g1, d1, tk1, os1⟩ := s1
      wp_walk
      exact hr
  · wp_walk using q1
    intro it s1 hr
    obtain ⟨hp1, g1, d1, tk1, os1⟩ := s1
    wp_walk
    exact hr
section
variable {X : Cx} {C f : Addr} {fld : Str} {k : Nat}
def iEnumOwn (K : PySem.W.Frag) (C : Addr) (fld : Str) (ta : TA) : TI := fun σ H R => ta σ H fun vs H1 => ∃ a dx l fs xs, vs = [.ref a] ∧ H1 a = some (.ins C dx fs) ∧ fs.lookup fld = some (.ref l) ∧ SqL K H1 l xs ∧ R (Ite K l) H1
theorem pi_enumOwn {e : Expr} {ta : TA} {p pos tpos : Pos} {elts : List Expr} {kk : Nat} (R : IterRun X.prog X.w X.K X.mg X.base C f fld k) (hs : PySem.W.findIn X.K (.ref C) "__iter__" = some (some (.ref f))) (hfn : PySem.W.isFn X.K (.ref f) = true) (hr : Room (k + 2) X.A)
    (hg : Gl X "enumerate") (hm : X.mg "enumerate" = none) (ha : PA X [e] ta) (hst : starEach [e] X.env = [(false, eval e X.env)] := by rfl) :
    PI X (.Tuple elts kk tpos) (.Call (.Name "enumerate" p) [e] [] pos) (iEnumOwn X.K C fld ta) := by
  refine ⟨fun pins s σ H R' I h => ?_⟩
  refine Call_ (ld_blt I hg hm boot_enumerate (PyProof.Rows.callWith_type1 (thn (ha.run pos pins s σ H _ I h) fun us s1 ⟨vs, H1, I1, r1, q1⟩ => ?_) hst rfl))
  obtain ⟨a, dx, l, fs, xs, ex, hi, hf, hq, q⟩ := q1
  subst ex
  obtain ⟨u, rfl, ru⟩ := vals1 r1
  cases ru
  refine callType_meetsIn (Q₁ := fun obj s2 => ∃ (it : Addr) (s3 : Shared), obj = .ref s3.heap.objs.size ∧ s2 = { s3 with heap := s3.heap.push (enumOb it) } ∧ Inv X pins σ H1 s3 ∧ FpOk X pins H1 it ∧ s3.heap.get? it = some (GNX.itObj l 0))
    PySem.F.called_enumerate (PySem.F.typeCall_enumerate_1 _) (PySem.F.newCall_enumerate_1 _) PySem.F.entry_enumerate_new PySem.F.entry_object_init (enum_new _) ?_ fun obj s2 h2 => ?_
  · refine iter_own (Sub.in1 (Sub.in1 ⟨hr, rfl⟩)) R hs hfn I1 hi hf hq fun it s3 I3 fp eo => ?_
    exact ⟨it, rfl, it, s3, rfl, rfl, I3, fp, eo⟩
  · obtain ⟨it, s3, rfl, rfl, I3, fp, eo⟩ := h2
    have he : (s3.heap.push (enumOb it)).get? s3.heap.objs.size = some (enumOb it) := Heap.get?_push_size _ rfl
    have hT : Shared.TypeIs { s3 with heap := s3.heap.push (enumOb it) } (.ref s3.heap.objs.size) "enumerate" := ⟨_, he, rfl⟩
    refine ⟨hT, PySem.F.args_object_init_2 _ _, _, object_init_meets PySem.F.called_enumerate.init.lookup PySem.F.called_enumerate.made (by decide), hT, rfl, ?_⟩
    have I4 : Inv X pins σ H1 { s3 with heap := s3.heap.push (enumOb it) } := I3.kept (t' := s3.toks) fun b u e => Heap.get?_push_of_some _ e
    refine wpAny_pyIter_enum he ?_
    have hlt : it < s3.heap.objs.size := Heap.lt_size eo
    refine ⟨s3.heap.objs.size, [s3.heap.objs.size, it], _, _, H1, rfl, I4, turn_enum l s3.heap.objs.size it, ⟨⟨.none, he⟩, ⟨_, Heap.get?_push_of_some _ eo, rfl, rfl⟩, Nat.ne_of_gt hlt⟩, fun b hb => ?_, q⟩
    have e' : b = s3.heap.objs.size ∨ b = it := by simpa using hb
    rcases e' with z | z
    · rw [z]
      exact I3.fpOk (Nat.le_refl _) (I3.hok.fresh (Nat.le_refl _))
    · rw [z]
      exact fp
end
end Bw
end
section
set_option Elab.async false
set_option linter.all false
set_option maxRecDepth 100000
set_option maxHeartbeats 4000000
/-! What the walk stands on: the facts of the top by name, a def with its promise, calls by name. The facts' rows are printed by tools/gen_ctx.py. -/
namespace Bw
open PySem PySem.Spec PyProof.Rows L2
abbrev PG : Program := (PySem.Challenge.rw_bowkinds_k68_whole_leaving_and_greatest).prog
structure Cy (w : World) (K : PySem.W.Frag) (mg : Str → Option Value) (base : Heap) : Prop where
  says : Says w K
  in_ : K.In base
  ns : base.Ns mainGlobals mg
section
variable {w : World} {K : PySem.W.Frag} {mg : Str → Option Value} {base : Heap}
theorem Cy.m_direction_of (c : Cy w K mg base) : mg "direction_of" = some (.ref (He.ga K "direction_of")) := He.glo_ok c.in_ c.ns (c.says.1.d.facts (f := He.Fa.glo "direction_of") (List.mem_of_getElem? (i := 0) rfl))
theorem Cy.m_way_of (c : Cy w K mg base) : mg "way_of" = some (.ref (He.ga K "way_of")) := He.glo_ok c.in_ c.ns (c.says.1.d.facts (f := He.Fa.glo "way_of") (List.mem_of_getElem? (i := 1) rfl))
theorem Cy.m_turned_bow (c : Cy w K mg base) : mg "turned_bow" = some (.ref (He.ga K "turned_bow")) := He.glo_ok c.in_ c.ns (c.says.1.d.facts (f := He.Fa.glo "turned_bow") (List.mem_of_getElem? (i := 2) rfl))
theorem Cy.m_is_ahead (c : Cy w K mg base) : mg "is_ahead" = some (.ref (He.ga K "is_ahead")) := He.glo_ok c.in_ c.ns (c.says.1.d.facts (f := He.Fa.glo "is_ahead") (List.mem_of_getElem? (i := 3) rfl))
theorem Cy.m_behinds_of (c : Cy w K mg base) : mg "behinds_of" = some (.ref (He.ga K "behinds_of")) := He.glo_ok c.in_ c.ns (c.says.1.d.facts (f := He.Fa.glo "behinds_of") (List.mem_of_getElem? (i := 4) rfl))
theorem Cy.m_unordered (c : Cy w K mg base) : mg "unordered" = some (.ref (He.ga K "unordered")) := He.glo_ok c.in_ c.ns (c.says.1.d.facts (f := He.Fa.glo "unordered") (List.mem_of_getElem? (i := 5) rfl))
theorem Cy.m_is_integer (c : Cy w K mg base) : mg "is_integer" = some (.ref (He.ga K "is_integer")) := He.glo_ok c.in_ c.ns (c.says.1.d.facts (f := He.Fa.glo "is_integer") (List.mem_of_getElem? (i := 6) rfl))
theorem Cy.m_is_place (c : Cy w K mg base) : mg "is_place" = some (.ref (He.ga K "is_place")) := He.glo_ok c.in_ c.ns (c.says.1.d.facts (f := He.Fa.glo "is_place") (List.mem_of_getElem? (i := 7) rfl))
theorem Cy.m_is_bow (c : Cy w K mg base) : mg "is_bow" = some (.ref (He.ga K "is_bow")) := He.glo_ok c.in_ c.ns (c.says.1.d.facts (f := He.Fa.glo "is_bow") (List.mem_of_getElem? (i := 8) rfl))
theorem Cy.m_are_bows (c : Cy w K mg base) : mg "are_bows" = some (.ref (He.ga K "are_bows")) := He.glo_ok c.in_ c.ns (c.says.1.d.facts (f := He.Fa.glo "are_bows") (List.mem_of_getElem? (i := 9) rfl))
theorem Cy.m_is_way (c : Cy w K mg base) : mg "is_way" = some (.ref (He.ga K "is_way")) := He.glo_ok c.in_ c.ns (c.says.1.d.facts (f := He.Fa.glo "is_way") (List.mem_of_getElem? (i := 10) rfl))
theorem Cy.m_are_ways (c : Cy w K mg base) : mg "are_ways" = some (.ref (He.ga K "are_ways")) := He.glo_ok c.in_ c.ns (c.says.1.d.facts (f := He.Fa.glo "are_ways") (List.mem_of_getElem? (i := 11) rfl))
theorem Cy.m_copies_of (c : Cy w K mg base) : mg "copies_of" = some (.ref (He.ga K "copies_of")) := He.glo_ok c.in_ c.ns (c.says.1.d.facts (f := He.Fa.glo "copies_of") (List.mem_of_getElem? (i := 12) rfl))
theorem Cy.m_weights_of (c : Cy w K mg base) : mg "weights_of" = some (.ref (He.ga K "weights_of")) := He.glo_ok c.in_ c.ns (c.says.1.d.facts (f := He.Fa.glo "weights_of") (List.mem_of_getElem? (i := 13) rfl))
theorem Cy.m_unlike_ends (c : Cy w K mg base) : mg "unlike_ends" = some (.ref (He.ga K "unlike_ends")) := He.glo_ok c.in_ c.ns (c.says.1.d.facts (f := He.Fa.glo "unlike_ends") (List.mem_of_getElem? (i := 14) rfl))
theorem Cy.m_most_at_an_end (c : Cy w K mg base) : mg "most_at_an_end" = some (.ref (He.ga K "most_at_an_end")) := He.glo_ok c.in_ c.ns (c.says.1.d.facts (f := He.Fa.glo "most_at_an_end") (List.mem_of_getElem? (i := 15) rfl))
theorem Cy.m_together (c : Cy w K mg base) : mg "together" = some (.ref (He.ga K "together")) := He.glo_ok c.in_ c.ns (c.says.1.d.facts (f := He.Fa.glo "together") (List.mem_of_getElem? (i := 16) rfl))
theorem Cy.m_levels_known (c : Cy w K mg base) : mg "levels_known" = some (.ref (He.ga K "levels_known")) := He.glo_ok c.in_ c.ns (c.says.1.d.facts (f := He.Fa.glo "levels_known") (List.mem_of_getElem? (i := 17) rfl))
theorem Cy.m_long_chain (c : Cy w K mg base) : mg "long_chain" = some (.ref (He.ga K "long_chain")) := He.glo_ok c.in_ c.ns (c.says.1.d.facts (f := He.Fa.glo "long_chain") (List.mem_of_getElem? (i := 18) rfl))
theorem Cy.m_is_ring (c : Cy w K mg base) : mg "is_ring" = some (.ref (He.ga K "is_ring")) := He.glo_ok c.in_ c.ns (c.says.1.d.facts (f := He.Fa.glo "is_ring") (List.mem_of_getElem? (i := 19) rfl))
theorem Cy.m_known_rings (c : Cy w K mg base) : mg "known_rings" = some (.ref (He.ga K "known_rings")) := He.glo_ok c.in_ c.ns (c.says.1.d.facts (f := He.Fa.glo "known_rings") (List.mem_of_getElem? (i := 20) rfl))
theorem Cy.m_ring_for (c : Cy w K mg base) : mg "ring_for" = some (.ref (He.ga K "ring_for")) := He.glo_ok c.in_ c.ns (c.says.1.d.facts (f := He.Fa.glo "ring_for") (List.mem_of_getElem? (i := 21) rfl))
theorem Cy.m_is_tight (c : Cy w K mg base) : mg "is_tight" = some (.ref (He.ga K "is_tight")) := He.glo_ok c.in_ c.ns (c.says.1.d.facts (f := He.Fa.glo "is_tight") (List.mem_of_getElem? (i := 22) rfl))
theorem Cy.m_need_paper (c : Cy w K mg base) : mg "need_paper" = some (.ref (He.ga K "need_paper")) := He.glo_ok c.in_ c.ns (c.says.1.d.facts (f := He.Fa.glo "need_paper") (List.mem_of_getElem? (i := 23) rfl))
theorem Cy.m_at_one_end (c : Cy w K mg base) : mg "at_one_end" = some (.ref (He.ga K "at_one_end")) := He.glo_ok c.in_ c.ns (c.says.1.d.facts (f := He.Fa.glo "at_one_end") (List.mem_of_getElem? (i := 24) rfl))
theorem Cy.m_crowd_of (c : Cy w K mg base) : mg "crowd_of" = some (.ref (He.ga K "crowd_of")) := He.glo_ok c.in_ c.ns (c.says.1.d.facts (f := He.Fa.glo "crowd_of") (List.mem_of_getElem? (i := 25) rfl))
theorem Cy.m_web_of (c : Cy w K mg base) : mg "web_of" = some (.ref (He.ga K "web_of")) := He.glo_ok c.in_ c.ns (c.says.1.d.facts (f := He.Fa.glo "web_of") (List.mem_of_getElem? (i := 26) rfl))
theorem Cy.m_all_layers (c : Cy w K mg base) : mg "all_layers" = some (.ref (He.ga K "all_layers")) := He.glo_ok c.in_ c.ns (c.says.1.d.facts (f := He.Fa.glo "all_layers") (List.mem_of_getElem? (i := 27) rfl))
theorem Cy.m_greatest_layers (c : Cy w K mg base) : mg "greatest_layers" = some (.ref (He.ga K "greatest_layers")) := He.glo_ok c.in_ c.ns (c.says.1.d.facts (f := He.Fa.glo "greatest_layers") (List.mem_of_getElem? (i := 28) rfl))
theorem Cy.m_full_layers (c : Cy w K mg base) : mg "full_layers" = some (.ref (He.ga K "full_layers")) := He.glo_ok c.in_ c.ns (c.says.1.d.facts (f := He.Fa.glo "full_layers") (List.mem_of_getElem? (i := 29) rfl))
theorem Cy.m_greatest_layer (c : Cy w K mg base) : mg "greatest_layer" = some (.ref (He.ga K "greatest_layer")) := He.glo_ok c.in_ c.ns (c.says.1.d.facts (f := He.Fa.glo "greatest_layer") (List.mem_of_getElem? (i := 30) rfl))
theorem Cy.m_mask_of (c : Cy w K mg base) : mg "mask_of" = some (.ref (He.ga K "mask_of")) := He.glo_ok c.in_ c.ns (c.says.1.d.facts (f := He.Fa.glo "mask_of") (List.mem_of_getElem? (i := 31) rfl))
theorem Cy.m_indexes_of (c : Cy w K mg base) : mg "indexes_of" = some (.ref (He.ga K "indexes_of")) := He.glo_ok c.in_ c.ns (c.says.1.d.facts (f := He.Fa.glo "indexes_of") (List.mem_of_getElem? (i := 32) rfl))
theorem Cy.m_layer_masks (c : Cy w K mg base) : mg "layer_masks" = some (.ref (He.ga K "layer_masks")) := He.glo_ok c.in_ c.ns (c.says.1.d.facts (f := He.Fa.glo "layer_masks") (List.mem_of_getElem? (i := 33) rfl))
theorem Cy.m_fewest_table (c : Cy w K mg base) : mg "fewest_table" = some (.ref (He.ga K "fewest_table")) := He.glo_ok c.in_ c.ns (c.says.1.d.facts (f := He.Fa.glo "fewest_table") (List.mem_of_getElem? (i := 34) rfl))
theorem Cy.m_left_values (c : Cy w K mg base) : mg "left_values" = some (.ref (He.ga K "left_values")) := He.glo_ok c.in_ c.ns (c.says.1.d.facts (f := He.Fa.glo "left_values") (List.mem_of_getElem? (i := 35) rfl))
theorem Cy.m_weighty_bows (c : Cy w K mg base) : mg "weighty_bows" = some (.ref (He.ga K "weighty_bows")) := He.glo_ok c.in_ c.ns (c.says.1.d.facts (f := He.Fa.glo "weighty_bows") (List.mem_of_getElem? (i := 36) rfl))
theorem Cy.m__law_bag (c : Cy w K mg base) : mg "_law_bag" = some (.ref (He.ga K "_law_bag")) := He.glo_ok c.in_ c.ns (c.says.1.d.facts (f := He.Fa.glo "_law_bag") (List.mem_of_getElem? (i := 37) rfl))
theorem Cy.m__law_take (c : Cy w K mg base) : mg "_law_take" = some (.ref (He.ga K "_law_take")) := He.glo_ok c.in_ c.ns (c.says.1.d.facts (f := He.Fa.glo "_law_take") (List.mem_of_getElem? (i := 38) rfl))
theorem Cy.m__law_one (c : Cy w K mg base) : mg "_law_one" = some (.ref (He.ga K "_law_one")) := He.glo_ok c.in_ c.ns (c.says.1.d.facts (f := He.Fa.glo "_law_one") (List.mem_of_getElem? (i := 39) rfl))
theorem Cy.m__law_all_ways (c : Cy w K mg base) : mg "_law_all_ways" = some (.ref (He.ga K "_law_all_ways")) := He.glo_ok c.in_ c.ns (c.says.1.d.facts (f := He.Fa.glo "_law_all_ways") (List.mem_of_getElem? (i := 40) rfl))
theorem Cy.m__law_bow (c : Cy w K mg base) : mg "_law_bow" = some (.ref (He.ga K "_law_bow")) := He.glo_ok c.in_ c.ns (c.says.1.d.facts (f := He.Fa.glo "_law_bow") (List.mem_of_getElem? (i := 41) rfl))
theorem Cy.m__law_bows (c : Cy w K mg base) : mg "_law_bows" = some (.ref (He.ga K "_law_bows")) := He.glo_ok c.in_ c.ns (c.says.1.d.facts (f := He.Fa.glo "_law_bows") (List.mem_of_getElem? (i := 42) rfl))
theorem Cy.m__law_spread (c : Cy w K mg base) : mg "_law_spread" = some (.ref (He.ga K "_law_spread")) := He.glo_ok c.in_ c.ns (c.says.1.d.facts (f := He.Fa.glo "_law_spread") (List.mem_of_getElem? (i := 43) rfl))
theorem Cy.m__law_ways_drawn (c : Cy w K mg base) : mg "_law_ways_drawn" = some (.ref (He.ga K "_law_ways_drawn")) := He.glo_ok c.in_ c.ns (c.says.1.d.facts (f := He.Fa.glo "_law_ways_drawn") (List.mem_of_getElem? (i := 44) rfl))
theorem Cy.m__law_tight_sets (c : Cy w K mg base) : mg "_law_tight_sets" = some (.ref (He.ga K "_law_tight_sets")) := He.glo_ok c.in_ c.ns (c.says.1.d.facts (f := He.Fa.glo "_law_tight_sets") (List.mem_of_getElem? (i := 45) rfl))
theorem Cy.m__law_other (c : Cy w K mg base) : mg "_law_other" = some (.ref (He.ga K "_law_other")) := He.glo_ok c.in_ c.ns (c.says.1.d.facts (f := He.Fa.glo "_law_other") (List.mem_of_getElem? (i := 46) rfl))
theorem Cy.m__law_tight_ways (c : Cy w K mg base) : mg "_law_tight_ways" = some (.ref (He.ga K "_law_tight_ways")) := He.glo_ok c.in_ c.ns (c.says.1.d.facts (f := He.Fa.glo "_law_tight_ways") (List.mem_of_getElem? (i := 47) rfl))
theorem Cy.m__law_kind_drawn (c : Cy w K mg base) : mg "_law_kind_drawn" = some (.ref (He.ga K "_law_kind_drawn")) := He.glo_ok c.in_ c.ns (c.says.1.d.facts (f := He.Fa.glo "_law_kind_drawn") (List.mem_of_getElem? (i := 48) rfl))
theorem Cy.m__law_row_drawn (c : Cy w K mg base) : mg "_law_row_drawn" = some (.ref (He.ga K "_law_row_drawn")) := He.glo_ok c.in_ c.ns (c.says.1.d.facts (f := He.Fa.glo "_law_row_drawn") (List.mem_of_getElem? (i := 49) rfl))
theorem Cy.m__law_at (c : Cy w K mg base) : mg "_law_at" = some (.ref (He.ga K "_law_at")) := He.glo_ok c.in_ c.ns (c.says.1.d.facts (f := He.Fa.glo "_law_at") (List.mem_of_getElem? (i := 50) rfl))
theorem Cy.m__law_falls (c : Cy w K mg base) : mg "_law_falls" = some (.ref (He.ga K "_law_falls")) := He.glo_ok c.in_ c.ns (c.says.1.d.facts (f := He.Fa.glo "_law_falls") (List.mem_of_getElem? (i := 51) rfl))
theorem Cy.m_law (c : Cy w K mg base) : mg "law" = some (.ref (He.ga K "law")) := He.glo_ok c.in_ c.ns (c.says.1.d.facts (f := He.Fa.glo "law") (List.mem_of_getElem? (i := 52) rfl))
theorem Cy.m_Pairing (c : Cy w K mg base) : mg "Pairing" = some (.ref (He.ga K "Pairing")) := He.glo_ok c.in_ c.ns (c.says.1.d.facts (f := He.Fa.glo "Pairing") (List.mem_of_getElem? (i := 53) rfl))
theorem Cy.c_Pairing (c : Cy w K mg base) : Cls K (He.ga K "Pairing") := He.cls_ok (c.says.1.d.facts (f := He.Fa.cls "Pairing") (List.mem_of_getElem? (i := 54) rfl))
theorem Cy.n_its_behinds (c : Cy w K mg base) : NoAttr K (He.ga K "Pairing") "its_behinds" := He.noat_ok (c.says.1.d.facts (f := He.Fa.noat "Pairing" "its_behinds") (List.mem_of_getElem? (i := 55) rfl))
theorem Cy.n_its_nexts (c : Cy w K mg base) : NoAttr K (He.ga K "Pairing") "its_nexts" := He.noat_ok (c.says.1.d.facts (f := He.Fa.noat "Pairing" "its_nexts") (List.mem_of_getElem? (i := 56) rfl))
theorem Cy.n_its_lasts (c : Cy w K mg base) : NoAttr K (He.ga K "Pairing") "its_lasts" := He.noat_ok (c.says.1.d.facts (f := He.Fa.noat "Pairing" "its_lasts") (List.mem_of_getElem? (i := 57) rfl))
theorem Cy.k_Pairing (c : Cy w K mg base) : Mk K (He.ga K "Pairing") (He.ma K (He.ga K "Pairing") "__init__") := He.mkr_ok (c.says.1.d.facts (f := He.Fa.mkr "Pairing") (List.mem_of_getElem? (i := 58) rfl))
theorem Cy.m_Ends (c : Cy w K mg base) : mg "Ends" = some (.ref (He.ga K "Ends")) := He.glo_ok c.in_ c.ns (c.says.1.d.facts (f := He.Fa.glo "Ends") (List.mem_of_getElem? (i := 59) rfl))
theorem Cy.c_Ends (c : Cy w K mg base) : Cls K (He.ga K "Ends") := He.cls_ok (c.says.1.d.facts (f := He.Fa.cls "Ends") (List.mem_of_getElem? (i := 60) rfl))
theorem Cy.n_its_weights (c : Cy w K mg base) : NoAttr K (He.ga K "Ends") "its_weights" := He.noat_ok (c.says.1.d.facts (f := He.Fa.noat "Ends" "its_weights") (List.mem_of_getElem? (i := 61) rfl))
theorem Cy.n_its_begins (c : Cy w K mg base) : NoAttr K (He.ga K "Ends") "its_begins" := He.noat_ok (c.says.1.d.facts (f := He.Fa.noat "Ends" "its_begins") (List.mem_of_getElem? (i := 62) rfl))
theorem Cy.n_its_ends (c : Cy w K mg base) : NoAttr K (He.ga K "Ends") "its_ends" := He.noat_ok (c.says.1.d.facts (f := He.Fa.noat "Ends" "its_ends") (List.mem_of_getElem? (i := 63) rfl))
theorem Cy.n_its_mates (c : Cy w K mg base) : NoAttr K (He.ga K "Ends") "its_mates" := He.noat_ok (c.says.1.d.facts (f := He.Fa.noat "Ends" "its_mates") (List.mem_of_getElem? (i := 64) rfl))
theorem Cy.n_its_partners (c : Cy w K mg base) : NoAttr K (He.ga K "Ends") "its_partners" := He.noat_ok (c.says.1.d.facts (f := He.Fa.noat "Ends" "its_partners") (List.mem_of_getElem? (i := 65) rfl))
theorem Cy.k_Ends (c : Cy w K mg base) : Mk K (He.ga K "Ends") (He.ma K (He.ga K "Ends") "__init__") := He.mkr_ok (c.says.1.d.facts (f := He.Fa.mkr "Ends") (List.mem_of_getElem? (i := 66) rfl))
theorem Cy.m_Kind (c : Cy w K mg base) : mg "Kind" = some (.ref (He.ga K "Kind")) := He.glo_ok c.in_ c.ns (c.says.1.d.facts (f := He.Fa.glo "Kind") (List.mem_of_getElem? (i := 67) rfl))
theorem Cy.c_Kind (c : Cy w K mg base) : Cls K (He.ga K "Kind") := He.cls_ok (c.says.1.d.facts (f := He.Fa.cls "Kind") (List.mem_of_getElem? (i := 68) rfl))
theorem Cy.n_its_ways (c : Cy w K mg base) : NoAttr K (He.ga K "Kind") "its_ways" := He.noat_ok (c.says.1.d.facts (f := He.Fa.noat "Kind" "its_ways") (List.mem_of_getElem? (i := 69) rfl))
theorem Cy.k_Kind (c : Cy w K mg base) : Mk K (He.ga K "Kind") (He.ma K (He.ga K "Kind") "__init__") := He.mkr_ok (c.says.1.d.facts (f := He.Fa.mkr "Kind") (List.mem_of_getElem? (i := 70) rfl))
theorem Cy.m_Row (c : Cy w K mg base) : mg "Row" = some (.ref (He.ga K "Row")) := He.glo_ok c.in_ c.ns (c.says.1.d.facts (f := He.Fa.glo "Row") (List.mem_of_getElem? (i := 71) rfl))
theorem Cy.c_Row (c : Cy w K mg base) : Cls K (He.ga K "Row") := He.cls_ok (c.says.1.d.facts (f := He.Fa.cls "Row") (List.mem_of_getElem? (i := 72) rfl))
theorem Cy.n_its_bows (c : Cy w K mg base) : NoAttr K (He.ga K "Row") "its_bows" := He.noat_ok (c.says.1.d.facts (f := He.Fa.noat "Row" "its_bows") (List.mem_of_getElem? (i := 73) rfl))
theorem Cy.k_Row (c : Cy w K mg base) : Mk K (He.ga K "Row") (He.ma K (He.ga K "Row") "__init__") := He.mkr_ok (c.says.1.d.facts (f := He.Fa.mkr "Row") (List.mem_of_getElem? (i := 74) rfl))
theorem Cy.t_Pairing_improve (c : Cy w K mg base) : Meth K (He.ga K "Pairing") "improve" (He.ma K (He.ga K "Pairing") "improve") := He.meth_ok (c.says.1.d.facts (f := He.Fa.meth "Pairing" "improve") (List.mem_of_getElem? (i := 75) rfl))
theorem Cy.t_Pairing_reached (c : Cy w K mg base) : Meth K (He.ga K "Pairing") "reached" (He.ma K (He.ga K "Pairing") "reached") := He.meth_ok (c.says.1.d.facts (f := He.Fa.meth "Pairing" "reached") (List.mem_of_getElem? (i := 76) rfl))
theorem Cy.t_Ends_slack (c : Cy w K mg base) : Meth K (He.ga K "Ends") "slack" (He.ma K (He.ga K "Ends") "slack") := He.meth_ok (c.says.1.d.facts (f := He.Fa.meth "Ends" "slack") (List.mem_of_getElem? (i := 77) rfl))
theorem Cy.t_Ends_settle (c : Cy w K mg base) : Meth K (He.ga K "Ends") "settle" (He.ma K (He.ga K "Ends") "settle") := He.meth_ok (c.says.1.d.facts (f := He.Fa.meth "Ends" "settle") (List.mem_of_getElem? (i := 78) rfl))
theorem Cy.t_Ends_shift (c : Cy w K mg base) : Meth K (He.ga K "Ends") "shift" (He.ma K (He.ga K "Ends") "shift") := He.meth_ok (c.says.1.d.facts (f := He.Fa.meth "Ends" "shift") (List.mem_of_getElem? (i := 79) rfl))
theorem Cy.t_Ends_flip (c : Cy w K mg base) : Meth K (He.ga K "Ends") "flip" (He.ma K (He.ga K "Ends") "flip") := He.meth_ok (c.says.1.d.facts (f := He.Fa.meth "Ends" "flip") (List.mem_of_getElem? (i := 80) rfl))
theorem Cy.t_Ends_leave (c : Cy w K mg base) : Meth K (He.ga K "Ends") "leave" (He.ma K (He.ga K "Ends") "leave") := He.meth_ok (c.says.1.d.facts (f := He.Fa.meth "Ends" "leave") (List.mem_of_getElem? (i := 81) rfl))
theorem Cy.t_Ends_chosen (c : Cy w K mg base) : Meth K (He.ga K "Ends") "chosen" (He.ma K (He.ga K "Ends") "chosen") := He.meth_ok (c.says.1.d.facts (f := He.Fa.meth "Ends" "chosen") (List.mem_of_getElem? (i := 82) rfl))
theorem Cy.t_Kind_ways (c : Cy w K mg base) : Meth K (He.ga K "Kind") "ways" (He.ma K (He.ga K "Kind") "ways") := He.meth_ok (c.says.1.d.facts (f := He.Fa.meth "Kind" "ways") (List.mem_of_getElem? (i := 83) rfl))
theorem Cy.t_Kind_lets (c : Cy w K mg base) : Meth K (He.ga K "Kind") "lets" (He.ma K (He.ga K "Kind") "lets") := He.meth_ok (c.says.1.d.facts (f := He.Fa.meth "Kind" "lets") (List.mem_of_getElem? (i := 84) rfl))
theorem Cy.t_Kind_contains (c : Cy w K mg base) : Meth K (He.ga K "Kind") "__contains__" (He.ma K (He.ga K "Kind") "__contains__") := He.meth_ok (c.says.1.d.facts (f := He.Fa.meth "Kind" "__contains__") (List.mem_of_getElem? (i := 85) rfl))
theorem Cy.t_Kind_iter (c : Cy w K mg base) : Meth K (He.ga K "Kind") "__iter__" (He.ma K (He.ga K "Kind") "__iter__") := He.meth_ok (c.says.1.d.facts (f := He.Fa.meth "Kind" "__iter__") (List.mem_of_getElem? (i := 86) rfl))
theorem Cy.t_Kind_invert (c : Cy w K mg base) : Meth K (He.ga K "Kind") "__invert__" (He.ma K (He.ga K "Kind") "__invert__") := He.meth_ok (c.says.1.d.facts (f := He.Fa.meth "Kind" "__invert__") (List.mem_of_getElem? (i := 87) rfl))
theorem Cy.t_Kind_or (c : Cy w K mg base) : Meth K (He.ga K "Kind") "__or__" (He.ma K (He.ga K "Kind") "__or__") := He.meth_ok (c.says.1.d.facts (f := He.Fa.meth "Kind" "__or__") (List.mem_of_getElem? (i := 88) rfl))
theorem Cy.t_Row_bows (c : Cy w K mg base) : Meth K (He.ga K "Row") "bows" (He.ma K (He.ga K "Row") "bows") := He.meth_ok (c.says.1.d.facts (f := He.Fa.meth "Row" "bows") (List.mem_of_getElem? (i := 89) rfl))
theorem Cy.t_Row_need (c : Cy w K mg base) : Meth K (He.ga K "Row") "need" (He.ma K (He.ga K "Row") "need") := He.meth_ok (c.says.1.d.facts (f := He.Fa.meth "Row" "need") (List.mem_of_getElem? (i := 90) rfl))
theorem Cy.t_Row_without (c : Cy w K mg base) : Meth K (He.ga K "Row") "without" (He.ma K (He.ga K "Row") "without") := He.meth_ok (c.says.1.d.facts (f := He.Fa.meth "Row" "without") (List.mem_of_getElem? (i := 91) rfl))
theorem Cy.t_Row_turned (c : Cy w K mg base) : Meth K (He.ga K "Row") "turned" (He.ma K (He.ga K "Row") "turned") := He.meth_ok (c.says.1.d.facts (f := He.Fa.meth "Row" "turned") (List.mem_of_getElem? (i := 92) rfl))
theorem Cy.t_Row_getitem (c : Cy w K mg base) : Meth K (He.ga K "Row") "__getitem__" (He.ma K (He.ga K "Row") "__getitem__") := He.meth_ok (c.says.1.d.facts (f := He.Fa.meth "Row" "__getitem__") (List.mem_of_getElem? (i := 93) rfl))
theorem Cy.t_Row_len (c : Cy w K mg base) : Meth K (He.ga K "Row") "__len__" (He.ma K (He.ga K "Row") "__len__") := He.meth_ok (c.says.1.d.facts (f := He.Fa.meth "Row" "__len__") (List.mem_of_getElem? (i := 94) rfl))
theorem Cy.t_Row_iter (c : Cy w K mg base) : Meth K (He.ga K "Row") "__iter__" (He.ma K (He.ga K "Row") "__iter__") := He.meth_ok (c.says.1.d.facts (f := He.Fa.meth "Row" "__iter__") (List.mem_of_getElem? (i := 95) rfl))
theorem Cy.ror_Kind (c : Cy w K mg base) : NoAttr K (He.ga K "Kind") "__ror__" := He.noat_ok (c.says.1.d.facts (f := He.Fa.noat "Kind" "__ror__") (List.mem_of_getElem? (i := 96) rfl))
theorem Cy.i_MOST_PLACE (c : Cy w K mg base) : ∃ t, mg "MOST_PLACE" = some (.int (10 ^ 30) t) := He.int_ok c.in_ c.ns (c.says.1.d.facts (f := He.Fa.int "MOST_PLACE" (10 ^ 30)) (List.mem_of_getElem? (i := 97) rfl))
theorem Cy.i_MOST_TRIED (c : Cy w K mg base) : ∃ t, mg "MOST_TRIED" = some (.int 10 t) := He.int_ok c.in_ c.ns (c.says.1.d.facts (f := He.Fa.int "MOST_TRIED" 10) (List.mem_of_getElem? (i := 98) rfl))
theorem Cy.m_WAYS (c : Cy w K mg base) : mg "WAYS" = some (.ref (He.ga K "WAYS")) := He.glo_ok c.in_ c.ns (c.says.1.d.facts (f := He.Fa.glo "WAYS") (List.mem_of_getElem? (i := 99) rfl))
theorem Cy.m_RINGS (c : Cy w K mg base) : mg "RINGS" = some (.ref (He.ga K "RINGS")) := He.glo_ok c.in_ c.ns (c.says.1.d.facts (f := He.Fa.glo "RINGS") (List.mem_of_getElem? (i := 100) rfl))
theorem Cy.m_AHEAD (c : Cy w K mg base) : mg "AHEAD" = some (.ref (He.ga K "AHEAD")) := He.glo_ok c.in_ c.ns (c.says.1.d.facts (f := He.Fa.glo "AHEAD") (List.mem_of_getElem? (i := 101) rfl))
theorem Cy.f_len (c : Cy w K mg base) : mg "len" = none := He.free_ok c.in_ c.ns (c.says.1.d.facts (f := He.Fa.free "len") (List.mem_of_getElem? (i := 102) rfl))
theorem Cy.f_range (c : Cy w K mg base) : mg "range" = none := He.free_ok c.in_ c.ns (c.says.1.d.facts (f := He.Fa.free "range") (List.mem_of_getElem? (i := 103) rfl))
theorem Cy.f_isinstance (c : Cy w K mg base) : mg "isinstance" = none := He.free_ok c.in_ c.ns (c.says.1.d.facts (f := He.Fa.free "isinstance") (List.mem_of_getElem? (i := 104) rfl))
theorem Cy.f_int (c : Cy w K mg base) : mg "int" = none := He.free_ok c.in_ c.ns (c.says.1.d.facts (f := He.Fa.free "int") (List.mem_of_getElem? (i := 105) rfl))
theorem Cy.f_bool (c : Cy w K mg base) : mg "bool" = none := He.free_ok c.in_ c.ns (c.says.1.d.facts (f := He.Fa.free "bool") (List.mem_of_getElem? (i := 106) rfl))
theorem Cy.f_list (c : Cy w K mg base) : mg "list" = none := He.free_ok c.in_ c.ns (c.says.1.d.facts (f := He.Fa.free "list") (List.mem_of_getElem? (i := 107) rfl))
theorem Cy.f_tuple (c : Cy w K mg base) : mg "tuple" = none := He.free_ok c.in_ c.ns (c.says.1.d.facts (f := He.Fa.free "tuple") (List.mem_of_getElem? (i := 108) rfl))
theorem Cy.f_str (c : Cy w K mg base) : mg "str" = none := He.free_ok c.in_ c.ns (c.says.1.d.facts (f := He.Fa.free "str") (List.mem_of_getElem? (i := 109) rfl))
theorem Cy.f_all (c : Cy w K mg base) : mg "all" = none := He.free_ok c.in_ c.ns (c.says.1.d.facts (f := He.Fa.free "all") (List.mem_of_getElem? (i := 110) rfl))
theorem Cy.f_any (c : Cy w K mg base) : mg "any" = none := He.free_ok c.in_ c.ns (c.says.1.d.facts (f := He.Fa.free "any") (List.mem_of_getElem? (i := 111) rfl))
theorem Cy.f_sorted (c : Cy w K mg base) : mg "sorted" = none := He.free_ok c.in_ c.ns (c.says.1.d.facts (f := He.Fa.free "sorted") (List.mem_of_getElem? (i := 112) rfl))
theorem Cy.f_set (c : Cy w K mg base) : mg "set" = none := He.free_ok c.in_ c.ns (c.says.1.d.facts (f := He.Fa.free "set") (List.mem_of_getElem? (i := 113) rfl))
theorem Cy.f_enumerate (c : Cy w K mg base) : mg "enumerate" = none := He.free_ok c.in_ c.ns (c.says.1.d.facts (f := He.Fa.free "enumerate") (List.mem_of_getElem? (i := 114) rfl))
theorem Cy.f_max (c : Cy w K mg base) : mg "max" = none := He.free_ok c.in_ c.ns (c.says.1.d.facts (f := He.Fa.free "max") (List.mem_of_getElem? (i := 115) rfl))
theorem Cy.f_min (c : Cy w K mg base) : mg "min" = none := He.free_ok c.in_ c.ns (c.says.1.d.facts (f := He.Fa.free "min") (List.mem_of_getElem? (i := 116) rfl))
theorem Cy.f_sum (c : Cy w K mg base) : mg "sum" = none := He.free_ok c.in_ c.ns (c.says.1.d.facts (f := He.Fa.free "sum") (List.mem_of_getElem? (i := 117) rfl))
theorem Cy.f_iter (c : Cy w K mg base) : mg "iter" = none := He.free_ok c.in_ c.ns (c.says.1.d.facts (f := He.Fa.free "iter") (List.mem_of_getElem? (i := 118) rfl))
theorem Cy.f_abs (c : Cy w K mg base) : mg "abs" = none := He.free_ok c.in_ c.ns (c.says.1.d.facts (f := He.Fa.free "abs") (List.mem_of_getElem? (i := 119) rfl))
theorem Cy.fd_direction_of (c : Cy w K mg base) : ∃ fd, FunD K d_direction_of.name d_direction_of.qual (defArgs s_direction_of) (defBody s_direction_of) (defScope s_direction_of) [] (d_direction_of.kws K) (He.fAd K d_direction_of.at_) fd := c.says.1.d.def_ 0 (d := d_direction_of) rfl
theorem Cy.fd_way_of (c : Cy w K mg base) : ∃ fd, FunD K d_way_of.name d_way_of.qual (defArgs s_way_of) (defBody s_way_of) (defScope s_way_of) [] (d_way_of.kws K) (He.fAd K d_way_of.at_) fd := c.says.1.d.def_ 1 (d := d_way_of) rfl
theorem Cy.fd_turned_bow (c : Cy w K mg base) : ∃ fd, FunD K d_turned_bow.name d_turned_bow.qual (defArgs s_turned_bow) (defBody s_turned_bow) (defScope s_turned_bow) [] (d_turned_bow.kws K) (He.fAd K d_turned_bow.at_) fd := c.says.1.d.def_ 2 (d := d_turned_bow) rfl
theorem Cy.fd_is_ahead (c : Cy w K mg base) : ∃ fd, FunD K d_is_ahead.name d_is_ahead.qual (defArgs s_is_ahead) (defBody s_is_ahead) (defScope s_is_ahead) [] (d_is_ahead.kws K) (He.fAd K d_is_ahead.at_) fd := c.says.1.d.def_ 3 (d := d_is_ahead) rfl
theorem Cy.fd_behinds_of (c : Cy w K mg base) : ∃ fd, FunD K d_behinds_of.name d_behinds_of.qual (defArgs s_behinds_of) (defBody s_behinds_of) (defScope s_behinds_of) [] (d_behinds_of.kws K) (He.fAd K d_behinds_of.at_) fd := c.says.1.d.def_ 4 (d := d_behinds_of) rfl
theorem Cy.fd_Pairing_init (c : Cy w K mg base) : ∃ fd, FunD K d_Pairing_init.name d_Pairing_init.qual (defArgs s_Pairing_init) (defBody s_Pairing_init) (defScope s_Pairing_init) [] (d_Pairing_init.kws K) (He.fAd K d_Pairing_init.at_) fd := c.says.1.d.def_ 5 (d := d_Pairing_init) rfl
theorem Cy.fd_Pairing_improve (c : Cy w K mg base) : ∃ fd, FunD K d_Pairing_improve.name d_Pairing_improve.qual (defArgs s_Pairing_improve) (defBody s_Pairing_improve) (defScope s_Pairing_improve) [] (d_Pairing_improve.kws K) (He.fAd K d_Pairing_improve.at_) fd := c.says.1.d.def_ 6 (d := d_Pairing_improve) rfl
theorem Cy.fd_Pairing_reached (c : Cy w K mg base) : ∃ fd, FunD K d_Pairing_reached.name d_Pairing_reached.qual (defArgs s_Pairing_reached) (defBody s_Pairing_reached) (defScope s_Pairing_reached) [] (d_Pairing_reached.kws K) (He.fAd K d_Pairing_reached.at_) fd := c.says.1.d.def_ 7 (d := d_Pairing_reached) rfl
theorem Cy.fd_unordered (c : Cy w K mg base) : ∃ fd, FunD K d_unordered.name d_unordered.qual (defArgs s_unordered) (defBody s_unordered) (defScope s_unordered) [] (d_unordered.kws K) (He.fAd K d_unordered.at_) fd := c.says.1.d.def_ 8 (d := d_unordered) rfl
theorem Cy.fd_is_integer (c : Cy w K mg base) : ∃ fd, FunD K d_is_integer.name d_is_integer.qual (defArgs s_is_integer) (defBody s_is_integer) (defScope s_is_integer) [] (d_is_integer.kws K) (He.fAd K d_is_integer.at_) fd := c.says.1.d.def_ 9 (d := d_is_integer) rfl
theorem Cy.fd_is_place (c : Cy w K mg base) : ∃ fd, FunD K d_is_place.name d_is_place.qual (defArgs s_is_place) (defBody s_is_place) (defScope s_is_place) [] (d_is_place.kws K) (He.fAd K d_is_place.at_) fd := c.says.1.d.def_ 10 (d := d_is_place) rfl
theorem Cy.fd_is_bow (c : Cy w K mg base) : ∃ fd, FunD K d_is_bow.name d_is_bow.qual (defArgs s_is_bow) (defBody s_is_bow) (defScope s_is_bow) [] (d_is_bow.kws K) (He.fAd K d_is_bow.at_) fd := c.says.1.d.def_ 11 (d := d_is_bow) rfl
theorem Cy.fd_are_bows (c : Cy w K mg base) : ∃ fd, FunD K d_are_bows.name d_are_bows.qual (defArgs s_are_bows) (defBody s_are_bows) (defScope s_are_bows) [] (d_are_bows.kws K) (He.fAd K d_are_bows.at_) fd := c.says.1.d.def_ 12 (d := d_are_bows) rfl
theorem Cy.fd_is_way (c : Cy w K mg base) : ∃ fd, FunD K d_is_way.name d_is_way.qual (defArgs s_is_way) (defBody s_is_way) (defScope s_is_way) [] (d_is_way.kws K) (He.fAd K d_is_way.at_) fd := c.says.1.d.def_ 13 (d := d_is_way) rfl
theorem Cy.fd_are_ways (c : Cy w K mg base) : ∃ fd, FunD K d_are_ways.name d_are_ways.qual (defArgs s_are_ways) (defBody s_are_ways) (defScope s_are_ways) [] (d_are_ways.kws K) (He.fAd K d_are_ways.at_) fd := c.says.1.d.def_ 14 (d := d_are_ways) rfl
theorem Cy.fd_copies_of (c : Cy w K mg base) : ∃ fd, FunD K d_copies_of.name d_copies_of.qual (defArgs s_copies_of) (defBody s_copies_of) (defScope s_copies_of) [] (d_copies_of.kws K) (He.fAd K d_copies_of.at_) fd := c.says.1.d.def_ 15 (d := d_copies_of) rfl
theorem Cy.fd_weights_of (c : Cy w K mg base) : ∃ fd, FunD K d_weights_of.name d_weights_of.qual (defArgs s_weights_of) (defBody s_weights_of) (defScope s_weights_of) [] (d_weights_of.kws K) (He.fAd K d_weights_of.at_) fd := c.says.1.d.def_ 16 (d := d_weights_of) rfl
theorem Cy.fd_Ends_init (c : Cy w K mg base) : ∃ fd, FunD K d_Ends_init.name d_Ends_init.qual (defArgs s_Ends_init) (defBody s_Ends_init) (defScope s_Ends_init) [] (d_Ends_init.kws K) (He.fAd K d_Ends_init.at_) fd := c.says.1.d.def_ 17 (d := d_Ends_init) rfl
theorem Cy.fd_Ends_slack (c : Cy w K mg base) : ∃ fd, FunD K d_Ends_slack.name d_Ends_slack.qual (defArgs s_Ends_slack) (defBody s_Ends_slack) (defScope s_Ends_slack) [] (d_Ends_slack.kws K) (He.fAd K d_Ends_slack.at_) fd := c.says.1.d.def_ 18 (d := d_Ends_slack) rfl
theorem Cy.fd_Ends_settle (c : Cy w K mg base) : ∃ fd, FunD K d_Ends_settle.name d_Ends_settle.qual (defArgs s_Ends_settle) (defBody s_Ends_settle) (defScope s_Ends_settle) [] (d_Ends_settle.kws K) (He.fAd K d_Ends_settle.at_) fd := c.says.1.d.def_ 19 (d := d_Ends_settle) rfl
theorem Cy.fd_Ends_shift (c : Cy w K mg base) : ∃ fd, FunD K d_Ends_shift.name d_Ends_shift.qual (defArgs s_Ends_shift) (defBody s_Ends_shift) (defScope s_Ends_shift) [] (d_Ends_shift.kws K) (He.fAd K d_Ends_shift.at_) fd := c.says.1.d.def_ 20 (d := d_Ends_shift) rfl
theorem Cy.fd_Ends_flip (c : Cy w K mg base) : ∃ fd, FunD K d_Ends_flip.name d_Ends_flip.qual (defArgs s_Ends_flip) (defBody s_Ends_flip) (defScope s_Ends_flip) [] (d_Ends_flip.kws K) (He.fAd K d_Ends_flip.at_) fd := c.says.1.d.def_ 21 (d := d_Ends_flip) rfl
theorem Cy.fd_Ends_leave (c : Cy w K mg base) : ∃ fd, FunD K d_Ends_leave.name d_Ends_leave.qual (defArgs s_Ends_leave) (defBody s_Ends_leave) (defScope s_Ends_leave) [] (d_Ends_leave.kws K) (He.fAd K d_Ends_leave.at_) fd := c.says.1.d.def_ 22 (d := d_Ends_leave) rfl
theorem Cy.fd_Ends_chosen (c : Cy w K mg base) : ∃ fd, FunD K d_Ends_chosen.name d_Ends_chosen.qual (defArgs s_Ends_chosen) (defBody s_Ends_chosen) (defScope s_Ends_chosen) [] (d_Ends_chosen.kws K) (He.fAd K d_Ends_chosen.at_) fd := c.says.1.d.def_ 23 (d := d_Ends_chosen) rfl
theorem Cy.fd_unlike_ends (c : Cy w K mg base) : ∃ fd, FunD K d_unlike_ends.name d_unlike_ends.qual (defArgs s_unlike_ends) (defBody s_unlike_ends) (defScope s_unlike_ends) [] (d_unlike_ends.kws K) (He.fAd K d_unlike_ends.at_) fd := c.says.1.d.def_ 24 (d := d_unlike_ends) rfl
theorem Cy.fd_most_at_an_end (c : Cy w K mg base) : ∃ fd, FunD K d_most_at_an_end.name d_most_at_an_end.qual (defArgs s_most_at_an_end) (defBody s_most_at_an_end) (defScope s_most_at_an_end) [] (d_most_at_an_end.kws K) (He.fAd K d_most_at_an_end.at_) fd := c.says.1.d.def_ 25 (d := d_most_at_an_end) rfl
theorem Cy.fd_together (c : Cy w K mg base) : ∃ fd, FunD K d_together.name d_together.qual (defArgs s_together) (defBody s_together) (defScope s_together) [] (d_together.kws K) (He.fAd K d_together.at_) fd := c.says.1.d.def_ 26 (d := d_together) rfl
theorem Cy.fd_levels_known (c : Cy w K mg base) : ∃ fd, FunD K d_levels_known.name d_levels_known.qual (defArgs s_levels_known) (defBody s_levels_known) (defScope s_levels_known) [] (d_levels_known.kws K) (He.fAd K d_levels_known.at_) fd := c.says.1.d.def_ 27 (d := d_levels_known) rfl
theorem Cy.fd_long_chain (c : Cy w K mg base) : ∃ fd, FunD K d_long_chain.name d_long_chain.qual (defArgs s_long_chain) (defBody s_long_chain) (defScope s_long_chain) [] (d_long_chain.kws K) (He.fAd K d_long_chain.at_) fd := c.says.1.d.def_ 28 (d := d_long_chain) rfl
theorem Cy.fd_Kind_init (c : Cy w K mg base) : ∃ fd, FunD K d_Kind_init.name d_Kind_init.qual (defArgs s_Kind_init) (defBody s_Kind_init) (defScope s_Kind_init) [] (d_Kind_init.kws K) (He.fAd K d_Kind_init.at_) fd := c.says.1.d.def_ 29 (d := d_Kind_init) rfl
theorem Cy.fd_Kind_ways (c : Cy w K mg base) : ∃ fd, FunD K d_Kind_ways.name d_Kind_ways.qual (defArgs s_Kind_ways) (defBody s_Kind_ways) (defScope s_Kind_ways) [] (d_Kind_ways.kws K) (He.fAd K d_Kind_ways.at_) fd := c.says.1.d.def_ 30 (d := d_Kind_ways) rfl
theorem Cy.fd_Kind_lets (c : Cy w K mg base) : ∃ fd, FunD K d_Kind_lets.name d_Kind_lets.qual (defArgs s_Kind_lets) (defBody s_Kind_lets) (defScope s_Kind_lets) [] (d_Kind_lets.kws K) (He.fAd K d_Kind_lets.at_) fd := c.says.1.d.def_ 31 (d := d_Kind_lets) rfl
theorem Cy.fd_Kind_contains (c : Cy w K mg base) : ∃ fd, FunD K d_Kind_contains.name d_Kind_contains.qual (defArgs s_Kind_contains) (defBody s_Kind_contains) (defScope s_Kind_contains) [] (d_Kind_contains.kws K) (He.fAd K d_Kind_contains.at_) fd := c.says.1.d.def_ 32 (d := d_Kind_contains) rfl
theorem Cy.fd_Kind_iter (c : Cy w K mg base) : ∃ fd, FunD K d_Kind_iter.name d_Kind_iter.qual (defArgs s_Kind_iter) (defBody s_Kind_iter) (defScope s_Kind_iter) [] (d_Kind_iter.kws K) (He.fAd K d_Kind_iter.at_) fd := c.says.1.d.def_ 33 (d := d_Kind_iter) rfl
theorem Cy.fd_Kind_invert (c : Cy w K mg base) : ∃ fd, FunD K d_Kind_invert.name d_Kind_invert.qual (defArgs s_Kind_invert) (defBody s_Kind_invert) (defScope s_Kind_invert) [] (d_Kind_invert.kws K) (He.fAd K d_Kind_invert.at_) fd := c.says.1.d.def_ 34 (d := d_Kind_invert) rfl
theorem Cy.fd_Kind_or (c : Cy w K mg base) : ∃ fd, FunD K d_Kind_or.name d_Kind_or.qual (defArgs s_Kind_or) (defBody s_Kind_or) (defScope s_Kind_or) [] (d_Kind_or.kws K) (He.fAd K d_Kind_or.at_) fd := c.says.1.d.def_ 35 (d := d_Kind_or) rfl
theorem Cy.fd_Row_init (c : Cy w K mg base) : ∃ fd, FunD K d_Row_init.name d_Row_init.qual (defArgs s_Row_init) (defBody s_Row_init) (defScope s_Row_init) [] (d_Row_init.kws K) (He.fAd K d_Row_init.at_) fd := c.says.1.d.def_ 36 (d := d_Row_init) rfl
theorem Cy.fd_Row_bows (c : Cy w K mg base) : ∃ fd, FunD K d_Row_bows.name d_Row_bows.qual (defArgs s_Row_bows) (defBody s_Row_bows) (defScope s_Row_bows) [] (d_Row_bows.kws K) (He.fAd K d_Row_bows.at_) fd := c.says.1.d.def_ 37 (d := d_Row_bows) rfl
theorem Cy.fd_Row_need (c : Cy w K mg base) : ∃ fd, FunD K d_Row_need.name d_Row_need.qual (defArgs s_Row_need) (defBody s_Row_need) (defScope s_Row_need) [] (d_Row_need.kws K) (He.fAd K d_Row_need.at_) fd := c.says.1.d.def_ 38 (d := d_Row_need) rfl
theorem Cy.fd_Row_without (c : Cy w K mg base) : ∃ fd, FunD K d_Row_without.name d_Row_without.qual (defArgs s_Row_without) (defBody s_Row_without) (defScope s_Row_without) [] (d_Row_without.kws K) (He.fAd K d_Row_without.at_) fd := c.says.1.d.def_ 39 (d := d_Row_without) rfl
theorem Cy.fd_Row_turned (c : Cy w K mg base) : ∃ fd, FunD K d_Row_turned.name d_Row_turned.qual (defArgs s_Row_turned) (defBody s_Row_turned) (defScope s_Row_turned) [] (d_Row_turned.kws K) (He.fAd K d_Row_turned.at_) fd := c.says.1.d.def_ 40 (d := d_Row_turned) rfl
theorem Cy.fd_Row_getitem (c : Cy w K mg base) : ∃ fd, FunD K d_Row_getitem.name d_Row_getitem.qual (defArgs s_Row_getitem) (defBody s_Row_getitem) (defScope s_Row_getitem) [] (d_Row_getitem.kws K) (He.fAd K d_Row_getitem.at_) fd := c.says.1.d.def_ 41 (d := d_Row_getitem) rfl
theorem Cy.fd_Row_len (c : Cy w K mg base) : ∃ fd, FunD K d_Row_len.name d_Row_len.qual (defArgs s_Row_len) (defBody s_Row_len) (defScope s_Row_len) [] (d_Row_len.kws K) (He.fAd K d_Row_len.at_) fd := c.says.1.d.def_ 42 (d := d_Row_len) rfl
theorem Cy.fd_Row_iter (c : Cy w K mg base) : ∃ fd, FunD K d_Row_iter.name d_Row_iter.qual (defArgs s_Row_iter) (defBody s_Row_iter) (defScope s_Row_iter) [] (d_Row_iter.kws K) (He.fAd K d_Row_iter.at_) fd := c.says.1.d.def_ 43 (d := d_Row_iter) rfl
theorem Cy.fd_is_ring (c : Cy w K mg base) : ∃ fd, FunD K d_is_ring.name d_is_ring.qual (defArgs s_is_ring) (defBody s_is_ring) (defScope s_is_ring) [] (d_is_ring.kws K) (He.fAd K d_is_ring.at_) fd := c.says.1.d.def_ 44 (d := d_is_ring) rfl
theorem Cy.fd_known_rings (c : Cy w K mg base) : ∃ fd, FunD K d_known_rings.name d_known_rings.qual (defArgs s_known_rings) (defBody s_known_rings) (defScope s_known_rings) [] (d_known_rings.kws K) (He.fAd K d_known_rings.at_) fd := c.says.1.d.def_ 45 (d := d_known_rings) rfl
theorem Cy.fd_ring_for (c : Cy w K mg base) : ∃ fd, FunD K d_ring_for.name d_ring_for.qual (defArgs s_ring_for) (defBody s_ring_for) (defScope s_ring_for) [] (d_ring_for.kws K) (He.fAd K d_ring_for.at_) fd := c.says.1.d.def_ 46 (d := d_ring_for) rfl
theorem Cy.fd_is_tight (c : Cy w K mg base) : ∃ fd, FunD K d_is_tight.name d_is_tight.qual (defArgs s_is_tight) (defBody s_is_tight) (defScope s_is_tight) [] (d_is_tight.kws K) (He.fAd K d_is_tight.at_) fd := c.says.1.d.def_ 47 (d := d_is_tight) rfl
theorem Cy.fd_need_paper (c : Cy w K mg base) : ∃ fd, FunD K d_need_paper.name d_need_paper.qual (defArgs s_need_paper) (defBody s_need_paper) (defScope s_need_paper) [] (d_need_paper.kws K) (He.fAd K d_need_paper.at_) fd := c.says.1.d.def_ 48 (d := d_need_paper) rfl
theorem Cy.fd_at_one_end (c : Cy w K mg base) : ∃ fd, FunD K d_at_one_end.name d_at_one_end.qual (defArgs s_at_one_end) (defBody s_at_one_end) (defScope s_at_one_end) [] (d_at_one_end.kws K) (He.fAd K d_at_one_end.at_) fd := c.says.1.d.def_ 49 (d := d_at_one_end) rfl
theorem Cy.fd_crowd_of (c : Cy w K mg base) : ∃ fd, FunD K d_crowd_of.name d_crowd_of.qual (defArgs s_crowd_of) (defBody s_crowd_of) (defScope s_crowd_of) [] (d_crowd_of.kws K) (He.fAd K d_crowd_of.at_) fd := c.says.1.d.def_ 50 (d := d_crowd_of) rfl
theorem Cy.fd_web_of (c : Cy w K mg base) : ∃ fd, FunD K d_web_of.name d_web_of.qual (defArgs s_web_of) (defBody s_web_of) (defScope s_web_of) [] (d_web_of.kws K) (He.fAd K d_web_of.at_) fd := c.says.1.d.def_ 51 (d := d_web_of) rfl
theorem Cy.fd_all_layers (c : Cy w K mg base) : ∃ fd, FunD K d_all_layers.name d_all_layers.qual (defArgs s_all_layers) (defBody s_all_layers) (defScope s_all_layers) [] (d_all_layers.kws K) (He.fAd K d_all_layers.at_) fd := c.says.1.d.def_ 52 (d := d_all_layers) rfl
theorem Cy.fd_greatest_layers (c : Cy w K mg base) : ∃ fd, FunD K d_greatest_layers.name d_greatest_layers.qual (defArgs s_greatest_layers) (defBody s_greatest_layers) (defScope s_greatest_layers) [] (d_greatest_layers.kws K) (He.fAd K d_greatest_layers.at_) fd := c.says.1.d.def_ 53 (d := d_greatest_layers) rfl
theorem Cy.fd_full_layers (c : Cy w K mg base) : ∃ fd, FunD K d_full_layers.name d_full_layers.qual (defArgs s_full_layers) (defBody s_full_layers) (defScope s_full_layers) [] (d_full_layers.kws K) (He.fAd K d_full_layers.at_) fd := c.says.1.d.def_ 54 (d := d_full_layers) rfl
theorem Cy.fd_greatest_layer (c : Cy w K mg base) : ∃ fd, FunD K d_greatest_layer.name d_greatest_layer.qual (defArgs s_greatest_layer) (defBody s_greatest_layer) (defScope s_greatest_layer) [] (d_greatest_layer.kws K) (He.fAd K d_greatest_layer.at_) fd := c.says.1.d.def_ 55 (d := d_greatest_layer) rfl
theorem Cy.fd_mask_of (c : Cy w K mg base) : ∃ fd, FunD K d_mask_of.name d_mask_of.qual (defArgs s_mask_of) (defBody s_mask_of) (defScope s_mask_of) [] (d_mask_of.kws K) (He.fAd K d_mask_of.at_) fd := c.says.1.d.def_ 56 (d := d_mask_of) rfl
theorem Cy.fd_indexes_of (c : Cy w K mg base) : ∃ fd, FunD K d_indexes_of.name d_indexes_of.qual (defArgs s_indexes_of) (defBody s_indexes_of) (defScope s_indexes_of) [] (d_indexes_of.kws K) (He.fAd K d_indexes_of.at_) fd := c.says.1.d.def_ 57 (d := d_indexes_of) rfl
theorem Cy.fd_layer_masks (c : Cy w K mg base) : ∃ fd, FunD K d_layer_masks.name d_layer_masks.qual (defArgs s_layer_masks) (defBody s_layer_masks) (defScope s_layer_masks) [] (d_layer_masks.kws K) (He.fAd K d_layer_masks.at_) fd := c.says.1.d.def_ 58 (d := d_layer_masks) rfl
theorem Cy.fd_fewest_table (c : Cy w K mg base) : ∃ fd, FunD K d_fewest_table.name d_fewest_table.qual (defArgs s_fewest_table) (defBody s_fewest_table) (defScope s_fewest_table) [] (d_fewest_table.kws K) (He.fAd K d_fewest_table.at_) fd := c.says.1.d.def_ 59 (d := d_fewest_table) rfl
theorem Cy.fd_left_values (c : Cy w K mg base) : ∃ fd, FunD K d_left_values.name d_left_values.qual (defArgs s_left_values) (defBody s_left_values) (defScope s_left_values) [] (d_left_values.kws K) (He.fAd K d_left_values.at_) fd := c.says.1.d.def_ 60 (d := d_left_values) rfl
theorem Cy.fd_weighty_bows (c : Cy w K mg base) : ∃ fd, FunD K d_weighty_bows.name d_weighty_bows.qual (defArgs s_weighty_bows) (defBody s_weighty_bows) (defScope s_weighty_bows) [] (d_weighty_bows.kws K) (He.fAd K d_weighty_bows.at_) fd := c.says.1.d.def_ 61 (d := d_weighty_bows) rfl
theorem Cy.fd_law_bag (c : Cy w K mg base) : ∃ fd, FunD K d_law_bag.name d_law_bag.qual (defArgs s_law_bag) (defBody s_law_bag) (defScope s_law_bag) [] (d_law_bag.kws K) (He.fAd K d_law_bag.at_) fd := c.says.1.d.def_ 62 (d := d_law_bag) rfl
theorem Cy.fd_law_take (c : Cy w K mg base) : ∃ fd, FunD K d_law_take.name d_law_take.qual (defArgs s_law_take) (defBody s_law_take) (defScope s_law_take) [] (d_law_take.kws K) (He.fAd K d_law_take.at_) fd := c.says.1.d.def_ 63 (d := d_law_take) rfl
theorem Cy.fd_law_one (c : Cy w K mg base) : ∃ fd, FunD K d_law_one.name d_law_one.qual (defArgs s_law_one) (defBody s_law_one) (defScope s_law_one) [] (d_law_one.kws K) (He.fAd K d_law_one.at_) fd := c.says.1.d.def_ 64 (d := d_law_one) rfl
theorem Cy.fd_law_all_ways (c : Cy w K mg base) : ∃ fd, FunD K d_law_all_ways.name d_law_all_ways.qual (defArgs s_law_all_ways) (defBody s_law_all_ways) (defScope s_law_all_ways) [] (d_law_all_ways.kws K) (He.fAd K d_law_all_ways.at_) fd := c.says.1.d.def_ 65 (d := d_law_all_ways) rfl
theorem Cy.fd_law_bow (c : Cy w K mg base) : ∃ fd, FunD K d_law_bow.name d_law_bow.qual (defArgs s_law_bow) (defBody s_law_bow) (defScope s_law_bow) [] (d_law_bow.kws K) (He.fAd K d_law_bow.at_) fd := c.says.1.d.def_ 66 (d := d_law_bow) rfl
theorem Cy.fd_law_bows (c : Cy w K mg base) : ∃ fd, FunD K d_law_bows.name d_law_bows.qual (defArgs s_law_bows) (defBody s_law_bows) (defScope s_law_bows) [] (d_law_bows.kws K) (He.fAd K d_law_bows.at_) fd := c.says.1.d.def_ 67 (d := d_law_bows) rfl
theorem Cy.fd_law_spread (c : Cy w K mg base) : ∃ fd, FunD K d_law_spread.name d_law_spread.qual (defArgs s_law_spread) (defBody s_law_spread) (defScope s_law_spread) [] (d_law_spread.kws K) (He.fAd K d_law_spread.at_) fd := c.says.1.d.def_ 68 (d := d_law_spread) rfl
theorem Cy.fd_law_ways_drawn (c : Cy w K mg base) : ∃ fd, FunD K d_law_ways_drawn.name d_law_ways_drawn.qual (defArgs s_law_ways_drawn) (defBody s_law_ways_drawn) (defScope s_law_ways_drawn) [] (d_law_ways_drawn.kws K) (He.fAd K d_law_ways_drawn.at_) fd := c.says.1.d.def_ 69 (d := d_law_ways_drawn) rfl
theorem Cy.fd_law_tight_sets (c : Cy w K mg base) : ∃ fd, FunD K d_law_tight_sets.name d_law_tight_sets.qual (defArgs s_law_tight_sets) (defBody s_law_tight_sets) (defScope s_law_tight_sets) [] (d_law_tight_sets.kws K) (He.fAd K d_law_tight_sets.at_) fd := c.says.1.d.def_ 70 (d := d_law_tight_sets) rfl
theorem Cy.fd_law_other (c : Cy w K mg base) : ∃ fd, FunD K d_law_other.name d_law_other.qual (defArgs s_law_other) (defBody s_law_other) (defScope s_law_other) [] (d_law_other.kws K) (He.fAd K d_law_other.at_) fd := c.says.1.d.def_ 71 (d := d_law_other) rfl
theorem Cy.fd_law_tight_ways (c : Cy w K mg base) : ∃ fd, FunD K d_law_tight_ways.name d_law_tight_ways.qual (defArgs s_law_tight_ways) (defBody s_law_tight_ways) (defScope s_law_tight_ways) [] (d_law_tight_ways.kws K) (He.fAd K d_law_tight_ways.at_) fd := c.says.1.d.def_ 72 (d := d_law_tight_ways) rfl
theorem Cy.fd_law_kind_drawn (c : Cy w K mg base) : ∃ fd, FunD K d_law_kind_drawn.name d_law_kind_drawn.qual (defArgs s_law_kind_drawn) (defBody s_law_kind_drawn) (defScope s_law_kind_drawn) [] (d_law_kind_drawn.kws K) (He.fAd K d_law_kind_drawn.at_) fd := c.says.1.d.def_ 73 (d := d_law_kind_drawn) rfl
theorem Cy.fd_law_row_drawn (c : Cy w K mg base) : ∃ fd, FunD K d_law_row_drawn.name d_law_row_drawn.qual (defArgs s_law_row_drawn) (defBody s_law_row_drawn) (defScope s_law_row_drawn) [] (d_law_row_drawn.kws K) (He.fAd K d_law_row_drawn.at_) fd := c.says.1.d.def_ 74 (d := d_law_row_drawn) rfl
theorem Cy.fd_law_at (c : Cy w K mg base) : ∃ fd, FunD K d_law_at.name d_law_at.qual (defArgs s_law_at) (defBody s_law_at) (defScope s_law_at) [] (d_law_at.kws K) (He.fAd K d_law_at.at_) fd := c.says.1.d.def_ 75 (d := d_law_at) rfl
theorem Cy.fd_law_falls (c : Cy w K mg base) : ∃ fd, FunD K d_law_falls.name d_law_falls.qual (defArgs s_law_falls) (defBody s_law_falls) (defScope s_law_falls) [] (d_law_falls.kws K) (He.fAd K d_law_falls.at_) fd := c.says.1.d.def_ 76 (d := d_law_falls) rfl
theorem Cy.fd_law (c : Cy w K mg base) : ∃ fd, FunD K d_law.name d_law.qual (defArgs s_law) (defBody s_law) (defScope s_law) [] (d_law.kws K) (He.fAd K d_law.at_) fd := c.says.1.d.def_ 77 (d := d_law) rfl
end
theorem hu64 {A : Around} {k : Nat} (hr : Room k A) : A.units + 64 < cLine := hr.units
/-- the def of a name, with its promise -/
structure Dn (P : Program) (w : World) (K : PySem.W.Frag) (mg : Str → Option Value) (base : Heap) (x : Str) (k : Nat) (ps : List Str) (sp : Sp) : Prop where
  ex : ∃ fd, FnOk P w K mg base CX0 k (He.ga K x) fd ps sp ∧ Binds K fd ps []
  gl : mg x = some (.ref (He.ga K x))
  kp : PySem.W.keepIn K (.ref (He.ga K x)) = true
/-- a method, with its promise -/
structure Dm (P : Program) (w : World) (K : PySem.W.Frag) (mg : Str → Option Value) (base : Heap) (C m : Str) (k : Nat) (ps : List Str) (sp : Sp) : Prop where
  ex : ∃ fd, FnOk P w K mg base CX0 k (He.ma K (He.ga K C) m) fd ps sp ∧ Binds K fd ps []
  at_ : Meth K (He.ga K C) m (He.ma K (He.ga K C) m)
  cl : Cls K (He.ga K C)
/-- a class, with its __init__'s promise -/
structure Di (P : Program) (w : World) (K : PySem.W.Frag) (mg : Str → Option Value) (base : Heap) (C : Str) (k : Nat) (ps : List Str) (sp : Sp) : Prop where
  ex : ∃ fd, FnOk P w K mg base CX0 k (He.ma K (He.ga K C) "__init__") fd ps sp ∧ Binds K fd ps []
  mkr : Mk K (He.ga K C) (He.ma K (He.ga K C) "__init__")
  gl : mg C = some (.ref (He.ga K C))
section
variable {X : Cx} {K0 : PySem.W.Frag} {x C m : Str} {k : Nat} {ps : List Str} {sp : Sp}
theorem Dn.call (D : Dn X.prog X.w X.K X.mg X.base x k ps sp) {e : Expr} {es : List Expr} {t : TA} {p pos : Pos} (hr : Room k X.A) (hg : Gl X x) (ha : PA X (e :: es) t) (hdb : (x == ("__debug__" : Str)) = false := by decide)
    (he : starEach (e :: es) X.env = (false, eval e X.env) :: starEach es X.env := by rfl) (hpl : (backTo pos (starEach es X.env)).any (·.1) = false := by rfl) :
    PE X (.Call (.Name x p) (e :: es) [] pos) (tCall sp [] E0 t) := by
  obtain ⟨fd, F, b⟩ := D.ex
  exact pe_call F hr hg D.gl D.kp b .nil pass0 ha hdb he hpl
theorem Dn.call0 (D : Dn X.prog X.w X.K X.mg X.base x k ps sp) {p pos : Pos} (hr : Room k X.A) (hg : Gl X x) (hdb : (x == ("__debug__" : Str)) = false := by decide) :
    PE X (.Call (.Name x p) [] [] pos) (tCall sp [] E0 tNil) := by
  obtain ⟨fd, F, b⟩ := D.ex
  exact pe_call0 F hr hg D.gl D.kp b .nil pass0 hdb
theorem Di.make (hK : X.K = K0) (D : Di X.prog X.w X.K X.mg X.base C k ps sp) {e : Expr} {es : List Expr} {t : TA} {p pos : Pos} (hr : Room (k + 1) X.A) (hg : Gl X C) (ha : PA X (e :: es) t) (hdb : (C == ("__debug__" : Str)) = false := by decide)
    (he : starEach (e :: es) X.env = (false, eval e X.env) :: starEach es X.env := by rfl) (hpl : (backTo pos (starEach es X.env)).any (·.1) = false := by rfl) :
    PE X (.Call (.Name C p) (e :: es) [] pos) (tMake (He.ga K0 C) sp [] E0 t) := by
  subst hK
  obtain ⟨fd, F, b⟩ := D.ex
  exact pe_make D.mkr F hr hg D.gl b .nil pass0 ha hdb he hpl
theorem Dm.call (hK : X.K = K0) (D : Dm X.prog X.w X.K X.mg X.base C m k ps sp) {pl : Sem Bool} {o e : Expr} {es : List Expr} {ta t : _} {apos pos : Pos} (hr : Room k X.A) (he : PE X o ta) (ha : PA X (e :: es) t)
    (hst : starEach (e :: es) X.env = (false, eval e X.env) :: starEach es X.env := by rfl) (hpl : (backTo pos (starEach es X.env)).any (·.1) = false := by rfl)
    (ht : eval (.Call (.Attribute o m apos) (e :: es) [] pos) X.env = (do
      let ov ← eval o X.env
      standAt apos.atName
      let (f, first) ← holding [ov] (getMethod ov m pl)
      callWith pos f first (backTo pos (starEach (e :: es) X.env)) (backToKw pos (keywordEach [] X.env))) := by rfl) :
    PE X (.Call (.Attribute o m apos) (e :: es) [] pos) (tMeth (He.ga K0 C) m sp [] E0 ta t) := by
  subst hK
  obtain ⟨fd, F, b⟩ := D.ex
  exact pe_meth (pl := pl) he D.cl D.at_ F hr b .nil pass0 ha hst hpl ht
theorem Dm.call0 (hK : X.K = K0) (D : Dm X.prog X.w X.K X.mg X.base C m k ps sp) {pl : Sem Bool} {o : Expr} {ta : _} {apos pos : Pos} (hr : Room k X.A) (he : PE X o ta)
    (ht : eval (.Call (.Attribute o m apos) [] [] pos) X.env = (do
      let ov ← eval o X.env
      standAt apos.atName
      let (f, first) ← holding [ov] (getMethod ov m pl)
      callWith pos f first (backTo pos (starEach [] X.env)) (backToKw pos (keywordEach [] X.env))) := by rfl) :
    PE X (.Call (.Attribute o m apos) [] [] pos) (tMeth (He.ga K0 C) m sp [] E0 ta tNil) := by
  subst hK
  obtain ⟨fd, F, b⟩ := D.ex
  exact pe_meth0 (pl := pl) he D.cl D.at_ F hr b .nil pass0 ht
theorem Dm.ix (hK : X.K = K0) (D : Dm X.prog X.w X.K X.mg X.base C "__getitem__" k ps sp) (hf : PySem.W.fnIn X.K (He.ma X.K (He.ga X.K C) "__getitem__") = true) {a b : Expr} {ta tb : TE} {pos : Pos} (hr : Room (k + 1) X.A) (ha : PE X a ta) (hb : PE X b tb)
    (hsl : ∀ x i, subscripted b true (.ref x) i = runValue (.builtin "lifetime.subscript" ⟨[.ref x, i], []⟩) := by intro _ _; with_unfolding_all rfl) : PE X (.Subscript a b pos) (tGet (He.ga K0 C) sp E0 ta tb) := by
  subst hK
  obtain ⟨fd, F, bd⟩ := D.ex
  exact pe_ixOwn D.at_.at_ hf D.at_.fn F bd pass0 hr ha hb hsl
theorem Dm.len (hK : X.K = K0) (D : Dm X.prog X.w X.K X.mg X.base C "__len__" k ps sp) (hr : Room (k + 1) X.A) :
    CallR X (.builtin "len") (fun xs H Q => ∃ a dx fs, xs = [.ref a] ∧ H a = some (.ins (He.ga K0 C) dx fs) ∧ sp [.ref a] H (fun v H' => ∃ k : Nat, v = .int k ∧ k < 2 ^ 62 ∧ Q (.int k) H') E0) := by
  subst hK
  obtain ⟨fd, F, bd⟩ := D.ex
  exact call_lenOwn D.at_.at_ D.at_.fn F bd pass0 hr
theorem Dm.inv (hK : X.K = K0) (D : Dm X.prog X.w X.K X.mg X.base C "__invert__" k ps sp) (hr : Room k X.A) :
    UnR X (unaryOp .Invert) (fun x H Q => (∃ a dx fs, x = .ref a ∧ H a = some (.ins (He.ga K0 C) dx fs)) ∧ sp [x] H Q E0) := by
  subst hK
  obtain ⟨fd, F, bd⟩ := D.ex
  exact un_invOwn D.at_.at_ D.at_.fn F bd pass0 hr
theorem Dm.or_ (hK : X.K = K0) (D : Dm X.prog X.w X.K X.mg X.base C "__or__" k ps sp) (hc : PySem.W.selfFirst X.K (He.ga X.K C) = true) (hr : Room k X.A) :
    OpR X (binaryOp .BitOr) (fun x y H Q => (∃ a b dx dy fs gs, x = .ref a ∧ y = .ref b ∧ H a = some (.ins (He.ga K0 C) dx fs) ∧ H b = some (.ins (He.ga K0 C) dy gs)) ∧ sp [x, y] H (fun v H' => (∃ p, v = .ref p) ∧ Q v H') E0) := by
  subst hK
  obtain ⟨fd, F, bd⟩ := D.ex
  exact op_orOwn hc D.at_.at_ D.at_.fn F bd pass0 hr
theorem Dm.in_ (hK : X.K = K0) (D : Dm X.prog X.w X.K X.mg X.base C "__contains__" k ps sp) (hr : Room k X.A) :
    OpR X (compareOp .In) (fun x y H Q => (∃ a dx fs, y = .ref a ∧ H a = some (.ins (He.ga K0 C) dx fs)) ∧ sp [y, x] H (fun v H' => ∃ b, v = .bl b ∧ Q (.bl b) H') E0) := by
  subst hK
  obtain ⟨fd, F, bd⟩ := D.ex
  exact op_inOwn D.at_.at_ D.at_.fn F bd pass0 hr
/-- f(.., same=..) -/
structure Dk (P : Program) (w : World) (K : PySem.W.Frag) (mg : Str → Option Value) (base : Heap) (x : Str) (n k : Nat) (ps : List Str) (sp : Sp) : Prop where
  ex : ∃ fd, FnOk P w K mg base CX0 k (He.ga K x) fd ps sp ∧ KBn K fd ps n [("same" : Str)] (fun us ws => us ++ ws) (fun vs zs => vs ++ zs)
  gl : mg x = some (.ref (He.ga K x))
  kp : PySem.W.keepIn K (.ref (He.ga K x)) = true
theorem Dk.callK {n : Nat} (D : Dk X.prog X.w X.K X.mg X.base x n k ps sp) {e : Expr} {es : List Expr} {kws : List Keyword} {t tk : TA} {p pos : Pos} (hr : Room k X.A) (hg : Gl X x) (ha : PA X (e :: es) t) (hkw : PK X kws tk)
    (hall : (backToKw pos (keywordEach kws X.env)).all (·.1.isSome) = true := by rfl) (hks : (backToKw pos (keywordEach kws X.env)).filterMap (·.1) = [("same" : Str)] := by rfl)
    (hdb : (x == ("__debug__" : Str)) = false := by decide) (he : starEach (e :: es) X.env = (false, eval e X.env) :: starEach es X.env := by rfl)
    (hpl : ((backTo pos (starEach (e :: es) X.env)).any (·.1) || (backToKw pos (keywordEach kws X.env)).any (·.1.isNone)) = false := by rfl) :
    PE X (.Call (.Name x p) (e :: es) kws pos) (tCallN n 1 sp (fun vs zs => vs ++ zs) E0 t tk) := by
  obtain ⟨fd, F, b⟩ := D.ex
  exact pe_callN F hr hg D.gl D.kp b pass0 ha hkw hall hks hdb he hpl
/-- a class whose __iter__ hands on the iterator of the list in a field -/
structure Dt (P : Program) (w : World) (K : PySem.W.Frag) (mg : Str → Option Value) (base : Heap) (C : Str) (fld : Str) (k : Nat) : Prop where
  run : IterRun P w K mg base (He.ga K C) (He.ma K (He.ga K C) "__iter__") fld k
  at_ : Meth K (He.ga K C) "__iter__" (He.ma K (He.ga K C) "__iter__")
end
section
variable {P : Program} {w : World} {K : PySem.W.Frag} {mg : Str → Option Value} {base : Heap} {x qual : Str} {params : Arguments} {body : List Stmt} {scope : Scope} {f : Addr} {fd : FuncData} {N ps : List Str} {k : Nat} {sp : Sp}
/-- a def's promise, from its walk -/
theorem walkD (F : FunD K x qual params body scope [] [] f fd) (S : FnScope N ps scope) (len : ∀ vs H Q E, sp vs H Q E → vs.length = ps.length)
    (hbody : ∀ (cdv : Value) (A : Around) (outer : List Env) (s : Shared) (H : Hp) (vs : List V) (Q : VK) (E : XK), Room k (A.deeper (envOfC qual scope s.heap.objs.size f cdv)) → sp vs H Q E →
      ∃ t, PSs (cxOf CX0 P w K mg base N qual scope f cdv A outer s H E).nox body t ∧ t { nx := fun _ H' => Q .non H', rt := Q } (start N vs) H)
    (hb : ∀ (kV doc pm : Value) (an : Option Addr) (cdv ct : Value) (us : List Value), us.length = ps.length → bindArgs (PySem.W.fnOf x qual params body scope .none kV doc pm an cdv ct) ⟨us, []⟩ = pure (ps.zip us)) :
    ∃ fd, FnOk P w K mg base CX0 (k + 1) f fd ps sp ∧ Binds K fd ps [] := ⟨fd, F.ok S len fun cdv A outer s H vs Q E hr h => let ⟨t, h1, q⟩ := hbody cdv A outer s H vs Q E hr h; ⟨t, h1.nox, q⟩, F.bindsN hb⟩
end
end Bw
end
section
set_option Elab.async false
set_option linter.all false
set_option maxRecDepth 100000
set_option maxHeartbeats 4000000
/-! Directions, ways, kinds: plain. -/
namespace Bw
open PySem
inductive Dir where
  | after | before | crossed | crosses | finished | finishes | holds | inside | meets | met | same | started | starts
deriving DecidableEq
inductive Way where
  | apart | begun | chained | crossing | ended | same | within
deriving DecidableEq
def nmD : Dir → Str
  | .after => "after" | .before => "before" | .crossed => "crossed" | .crosses => "crosses" | .finished => "finished" | .finishes => "finishes" | .holds => "holds" | .inside => "inside" | .meets => "meets" | .met => "met" | .same => "same" | .started => "started" | .starts => "starts"
def nmW : Way → Str
  | .apart => "apart" | .begun => "begun" | .chained => "chained" | .crossing => "crossing" | .ended => "ended" | .same => "same" | .within => "within"
def wayD : Dir → Way
  | .after => .apart | .before => .apart | .crossed => .crossing | .crosses => .crossing | .finished => .ended | .finishes => .ended | .holds => .within | .inside => .within | .meets => .chained | .met => .chained | .same => .same | .started => .begun | .starts => .begun
def allW : List Way := [.apart, .begun, .chained, .crossing, .ended, .same, .within]
def allD : List Dir := [.after, .before, .crossed, .crosses, .finished, .finishes, .holds, .inside, .meets, .met, .same, .started, .starts]
abbrev Bow := Int × Int
def dirOf (a b : Bow) : Dir :=
  if a.2 < b.1 then .before else if a.2 = b.1 then .meets else if b.2 < a.1 then .after else if b.2 = a.1 then .met
  else if a.1 = b.1 then (if a.2 = b.2 then .same else if a.2 < b.2 then .starts else .started)
  else if a.2 = b.2 then (if b.1 < a.1 then .finishes else .finished)
  else if a.1 < b.1 then (if a.2 < b.2 then .crosses else .holds)
  else if a.2 < b.2 then .inside else .crossed
def wayOf (a b : Bow) : Way := wayD (dirOf a b)
abbrev Kd := Way → Bool
def kd7 (a b c d e f g : Bool) : Kd
  | .apart => a | .begun => b | .chained => c | .crossing => d | .ended => e | .same => f | .within => g
theorem kd7_of (k : Kd) : k = kd7 (k .apart) (k .begun) (k .chained) (k .crossing) (k .ended) (k .same) (k .within) := by
  funext w; cases w <;> rfl
/-- what holds of all 128 kinds -/
theorem forKd {p : Kd → Prop} (h : ∀ a b c d e f g : Bool, p (kd7 a b c d e f g)) (k : Kd) : p k := by
  rw [kd7_of k]; exact h ..
def waysOf (k : Kd) : List Way := allW.filter k
theorem mem_waysOf {k : Kd} {w : Way} : w ∈ waysOf k ↔ k w = true := by
  unfold waysOf
  rw [List.mem_filter]
  refine ⟨fun h => h.2, fun h => ⟨?_, h⟩⟩
  cases w <;> decide
theorem in_allW (w : Way) : w ∈ allW := by cases w <;> decide
theorem in_allD (d : Dir) : d ∈ allD := by cases d <;> decide
theorem nmW_all : ∀ a ∈ allW, ∀ b ∈ allW, nmW a = nmW b → a = b := by decide +kernel
theorem nmD_all : ∀ a ∈ allD, ∀ b ∈ allD, nmD a = nmD b → a = b := by decide +kernel
theorem nmW_inj {a b : Way} (h : nmW a = nmW b) : a = b := nmW_all a (in_allW a) b (in_allW b) h
theorem nmD_inj {a b : Dir} (h : nmD a = nmD b) : a = b := nmD_all a (in_allD a) b (in_allD b) h
theorem wayOf_comm {a b : Bow} (ha : a.1 < a.2) (hb : b.1 < b.2) : wayOf a b = wayOf b a := by
  unfold wayOf dirOf
  (repeat' split) <;> first | rfl | (exfalso; omega)
/-- two lists that rise and have the same members -/
theorem eq_of_rise {α : Type} {lt : α → α → Prop} (irr : ∀ a, ¬ lt a a) (asy : ∀ a b, lt a b → ¬ lt b a) : ∀ xs ys : List α, xs.Pairwise lt → ys.Pairwise lt → (∀ z, z ∈ xs ↔ z ∈ ys) → xs = ys
  | [], [], _, _, _ => rfl
  | [], y :: ys, _, _, h => absurd ((h y).2 (by simp)) (by simp)
  | x :: xs, [], _, _, h => absurd ((h x).1 (by simp)) (by simp)
  | x :: xs, y :: ys, hx, hy, h => by
    obtain ⟨x1, x2⟩ := List.pairwise_cons.mp hx
    obtain ⟨y1, y2⟩ := List.pairwise_cons.mp hy
    have e : x = y := by
      rcases List.mem_cons.mp ((h x).1 (by simp)) with e | h1
      · exact e
      · rcases List.mem_cons.mp ((h y).2 (by simp)) with e | h2
        · exact e.symm
        · exact absurd (x1 _ h2) (asy _ _ (y1 _ h1))
    subst e
    rw [eq_of_rise irr asy xs ys x2 y2 fun z => ?_]
    refine ⟨fun hz => ?_, fun hz => ?_⟩
    · rcases List.mem_cons.mp ((h z).1 (List.mem_cons_of_mem _ hz)) with e | h1
      · exact absurd (x1 z hz) (e ▸ irr x)
      · exact h1
    · rcases List.mem_cons.mp ((h z).2 (List.mem_cons_of_mem _ hz)) with e | h1
      · exact absurd (y1 z hz) (e ▸ irr x)
      · exact h1
end Bw
end
section
set_option Elab.async false
set_option linter.all false
set_option maxRecDepth 100000
set_option maxHeartbeats 4000000
/-! Answers to questions that come again and again. -/
namespace Bw
open PySem PySem.Spec PyProof.Rows L2
abbrev BowT (K : PySem.W.Frag) (H : Hp) (a : Addr) (x : Bow) : Prop := SqT K H a [.int x.1, .int x.2]
section
variable {K : PySem.W.Frag} {A B : Prop}
theorem iteP {p : Prop} [Decidable p] (h1 : p → A) (h2 : ¬ p → B) : if decide p = true then A else B := by
  by_cases h : p
  · rw [decide_eq_true h]; exact iteT (h1 h)
  · rw [decide_eq_false h]; exact iteF (h2 h)
theorem iteI {x y : Int} (h1 : x = y → A) (h2 : x ≠ y → B) : if decide (V.int x = V.int y) = true then A else B := by
  by_cases h : x = y
  · rw [decide_eq_true (by rw [h])]; exact iteT (h1 h)
  · rw [decide_eq_false (by simpa using h)]; exact iteF (h2 h)
theorem iteS {x y : Str} (h1 : x = y → A) (h2 : x ≠ y → B) : if decide (V.str x = V.str y) = true then A else B := by
  by_cases h : x = y
  · rw [decide_eq_true (by rw [h])]; exact iteT (h1 h)
  · rw [decide_eq_false (by simpa using h)]; exact iteF (h2 h)
theorem iteB {b : Bool} (h1 : b = true → A) (h2 : b = false → B) : if b = true then A else B := by
  cases b with
  | true => exact iteT (h1 rfl)
  | false => exact iteF (h2 rfl)
theorem iteN {b : Bool} (h1 : b = false → A) (h2 : b = true → B) : if (!b) = true then A else B := by
  cases b with
  | true => exact iteF (h2 rfl)
  | false => exact iteT (h1 rfl)
theorem iteNP {p : Prop} [Decidable p] (h1 : ¬ p → A) (h2 : p → B) : if (!decide p) = true then A else B := by
  by_cases h : p
  · rw [decide_eq_true h]; exact iteF (h2 h)
  · rw [decide_eq_false h]; exact iteT (h1 h)
theorem iteNI {x y : Int} (h1 : x ≠ y → A) (h2 : x = y → B) : if (!decide (V.int x = V.int y)) = true then A else B := by
  by_cases h : x = y
  · rw [decide_eq_true (by rw [h])]; exact iteF (h2 h)
  · rw [decide_eq_false (by simpa using h)]; exact iteT (h1 h)
theorem iteT' {b : Bool} (h : b = true) (h1 : A) : if b = true then A else B := by rw [h]; exact iteT h1
theorem iteF' {b : Bool} (h : b = false) (h1 : B) : if b = true then A else B := by rw [h]; exact iteF h1
theorem iteP' {p : Prop} [Decidable p] {f : Bool → Prop} (h1 : p → f true) (h2 : ¬ p → f false) : f (decide p) := by
  by_cases h : p
  · rw [decide_eq_true h]; exact h1 h
  · rw [decide_eq_false h]; exact h2 h
/-- one of the two places of a bow in a slot -/
theorem rd0 {σ : L2.St} {H : Hp} {Q : VK} {i : Nat} {a : Addr} {x : Bow} (e : σ[i]? = some (some (.ref a))) (h : BowT K H a x) (q : Q (.int x.1) H) : tOp (rIxT K) (tVar i) (tC (.int 0)) σ H Q :=
  ⟨_, e, a, _, 0, _, rfl, rfl, h, rfl, q⟩
theorem rd1 {σ : L2.St} {H : Hp} {Q : VK} {i : Nat} {a : Addr} {x : Bow} (e : σ[i]? = some (some (.ref a))) (h : BowT K H a x) (q : Q (.int x.2) H) : tOp (rIxT K) (tVar i) (tC (.int 1)) σ H Q :=
  ⟨_, e, a, _, 1, _, rfl, rfl, h, rfl, q⟩
end
/-- a place that a bow may have -/
def Ok1 (i : Int) : Prop := -(10 ^ 30) ≤ i ∧ i ≤ 10 ^ 30
def Good (x : Bow) : Prop := Ok1 x.1 ∧ Ok1 x.2 ∧ x.1 < x.2
/-- a list of bows: where each stands, and what it is -/
abbrev Bs := List (Addr × Bow)
abbrev Bs.vs (bs : Bs) : List V := bs.map fun b => V.ref b.1
abbrev Bs.bows (bs : Bs) : List Bow := bs.map fun b => b.2
def BowsT (K : PySem.W.Frag) (H : Hp) (bs : Bs) : Prop := ∀ b ∈ bs, BowT K H b.1 b.2 ∧ Good b.2
theorem same_tup {K : PySem.W.Frag} {H H' : Hp} {a : Addr} {xs : List V} (e : Same H H') (h : SqT K H a xs) : SqT K H' a xs := by
  rcases h with (h | ⟨o, h⟩) | h
  · exact .inl (.inl (e _ _ h))
  · exact .inl (.inr ⟨o, e _ _ h⟩)
  · exact .inr h
theorem BowsT.same {K : PySem.W.Frag} {H H' : Hp} {bs : Bs} (e : Same H H') (h : BowsT K H bs) : BowsT K H' bs := fun b hb => ⟨same_tup e (h b hb).1, (h b hb).2⟩
/-- a Row's fields -/
abbrev rowF (l : Addr) : List (Str × V) := [("its_bows", .ref l)]
structure RowAt (K : PySem.W.Frag) (H : Hp) (p : Addr) (bs : Bs) : Prop where
  ex : ∃ dx l, H p = some (.ins (He.ga K "Row") dx (rowF l)) ∧ H l = some (.lst bs.vs)
  ok : BowsT K H bs
theorem RowAt.same {K : PySem.W.Frag} {H H' : Hp} {p : Addr} {bs : Bs} (e : Same H H') (h : RowAt K H p bs) : RowAt K H' p bs := by
  obtain ⟨dx, l, h1, h2⟩ := h.ex
  exact ⟨⟨dx, l, e _ _ h1, e _ _ h2⟩, h.ok.same e⟩

abbrev kindF (l : Addr) : List (Str × V) := [("its_ways", .ref l)]
structure KindAt (K : PySem.W.Frag) (H : Hp) (p : Addr) (k : Kd) : Prop where
  ex : ∃ dx l, H p = some (.ins (He.ga K "Kind") dx (kindF l)) ∧ H l = some (.lst (txs ((waysOf k).map nmW)))
theorem KindAt.same {K : PySem.W.Frag} {H H' : Hp} {p : Addr} {k : Kd} (e : Same H H') (h : KindAt K H p k) : KindAt K H' p k := by
  obtain ⟨dx, l, h1, h2⟩ := h.ex
  exact ⟨⟨dx, l, e _ _ h1, e _ _ h2⟩⟩
theorem same_upd {H : Hp} {p : Addr} {o : HO} (h : H p = none) : Same H (upd H p o) := fun b o' e => by
  rw [upd_ne (ne_of_none e h)]
  exact e
/-! ### comprehensions whose steps change nothing -/
section
variable {K : PySem.W.Frag} {a : Addr} {xs : List V} {g : TG} {tt : TT} {te : TE} {vs : List Nat} {σ : L2.St} {H1 : Hp} {D : Addr} {Qd : Hp → Prop}
/-- one turn: the test and the item, at any heap that keeps what stood -/
def Turn (g : TG) (tt : TT) (te : TE) (vs : List Nat) (σ : L2.St) (acc acc' : List V) (x : V) (H : Hp) : Prop :=
  ∀ (K1 : V → Hp → Prop) (K0 : Hp → Prop), (∀ y H4, Same H H4 → acc' = acc ++ [y] → K1 y H4) → (∀ H3, Same H H3 → acc' = acc → K0 H3) →
    g x (wipe σ vs) H fun σ2 H2 => wipe σ2 vs = wipe σ vs ∧ tt σ2 H2 fun b H3 => if b = true then te σ2 H3 K1 else K0 H3
def AccAt (H1 : Hp) (D : Addr) (acc : Nat → List V) (i : Nat) (H : Hp) : Prop := Same H1 H ∧ H D = some (.lst (acc i)) ∧ (acc i).length ≤ i
theorem lc_step {acc : Nat → List V} {i n : Nat} {x : V} {H : Hp} (hi : i < n) (hn : n ≤ sizeLine) (hD : H1 D = none) (h : Turn g tt te vs σ (acc i) (acc (i + 1)) x H) (p : AccAt H1 D acc i H) :
    g x (wipe σ vs) H fun σ2 H2 => wipe σ2 vs = wipe σ vs ∧ tt σ2 H2 fun b H3 =>
      if b = true then te σ2 H3 fun y H4 => ∃ acc', H4 D = some (.lst acc') ∧ acc'.length < sizeLine ∧ AccAt H1 D acc (i + 1) (upd H4 D (.lst (acc' ++ [y]))) else AccAt H1 D acc (i + 1) H3 := by
  obtain ⟨p1, p2, p3⟩ := p
  refine h _ _ (fun y H4 sm e => ⟨acc i, sm _ _ p2, by omega, fun b o hb => ?_, by rw [upd_same, e], by rw [e, List.length_append]; simpa using p3⟩) (fun H3 sm e => ⟨p1.trans sm, by rw [e]; exact sm _ _ p2, by rw [e]; omega⟩)
  rw [upd_ne (ne_of_none hb hD)]
  exact sm _ _ (p1 _ _ hb)
theorem acc_start {acc : Nat → List V} (hD : H1 D = none) (h0 : acc 0 = []) : AccAt H1 D acc 0 (upd H1 D (.lst [])) := ⟨same_upd hD, by rw [upd_same, h0], by rw [h0]; exact Nat.le_refl _⟩
theorem lc_accL (acc : Nat → List V) (hl : SqL K H1 a xs) (hn : xs.length ≤ sizeLine) (hD : H1 D = none) (h0 : acc 0 = [])
    (hs : ∀ i x H, xs[i]? = some x → Same H1 H → H D = some (.lst (acc i)) → Turn g tt te vs σ (acc i) (acc (i + 1)) x H) (hd : ∀ H, Same H1 H → H D = some (.lst (acc xs.length)) → Qd H) :
    ∃ W : Nat → Nat → Hp → Prop, (∃ m, W 0 m (upd H1 D (.lst []))) ∧ ∀ i m H, W i m H →
      ((Itl K a).stop i H ∧ Qd H) ∨ ((Itl K a).go i H ∧ ∃ Nx : Hp → Prop, (∀ H', Nx H' → ∃ m', m' < m ∧ W (i + 1) m' H') ∧ ∀ x H', (Itl K a).yld i H x H' → g x (wipe σ vs) H' fun σ2 H2 => wipe σ2 vs = wipe σ vs ∧ tt σ2 H2 fun b H3 =>
        if b = true then te σ2 H3 fun y H4 => ∃ acc, H4 D = some (.lst acc) ∧ acc.length < sizeLine ∧ Nx (upd H4 D (.lst (acc ++ [y]))) else Nx H3) :=
  lc_list (K := K) (a := a) (xs := xs) (AccAt H1 D acc) (acc_start hD h0) (fun i H _ p => p.1.seq hl) (fun i x H hx p => lc_step (List.getElem?_eq_some_iff.mp hx).1 hn hD (hs i x H hx p.1 p.2.1) p) (fun H p => hd H p.1 p.2.1)
theorem lc_accT (acc : Nat → List V) (hl : SqT K H1 a xs) (hn : xs.length ≤ sizeLine) (hD : H1 D = none) (h0 : acc 0 = [])
    (hs : ∀ i x H, xs[i]? = some x → Same H1 H → H D = some (.lst (acc i)) → Turn g tt te vs σ (acc i) (acc (i + 1)) x H) (hd : ∀ H, Same H1 H → H D = some (.lst (acc xs.length)) → Qd H) :
    ∃ W : Nat → Nat → Hp → Prop, (∃ m, W 0 m (upd H1 D (.lst []))) ∧ ∀ i m H, W i m H →
      ((Itt K a).stop i H ∧ Qd H) ∨ ((Itt K a).go i H ∧ ∃ Nx : Hp → Prop, (∀ H', Nx H' → ∃ m', m' < m ∧ W (i + 1) m' H') ∧ ∀ x H', (Itt K a).yld i H x H' → g x (wipe σ vs) H' fun σ2 H2 => wipe σ2 vs = wipe σ vs ∧ tt σ2 H2 fun b H3 =>
        if b = true then te σ2 H3 fun y H4 => ∃ acc, H4 D = some (.lst acc) ∧ acc.length < sizeLine ∧ Nx (upd H4 D (.lst (acc ++ [y]))) else Nx H3) :=
  lc_tup (K := K) (a := a) (xs := xs) (AccAt H1 D acc) (acc_start hD h0) (fun i H _ p => same_tup p.1 hl) (fun i x H hx p => lc_step (List.getElem?_eq_some_iff.mp hx).1 hn hD (hs i x H hx p.1 p.2.1) p) (fun H p => hd H p.1 p.2.1)
theorem lc_accR {lo : Int} {n : Nat} (acc : Nat → List V) (hn : n ≤ sizeLine) (hD : H1 D = none) (h0 : acc 0 = [])
    (hs : ∀ i H, i < n → Same H1 H → H D = some (.lst (acc i)) → Turn g tt te vs σ (acc i) (acc (i + 1)) (.int (lo + i)) H) (hd : ∀ H, Same H1 H → H D = some (.lst (acc n)) → Qd H) :
    ∃ W : Nat → Nat → Hp → Prop, (∃ m, W 0 m (upd H1 D (.lst []))) ∧ ∀ i m H, W i m H →
      ((Itr lo n).stop i H ∧ Qd H) ∨ ((Itr lo n).go i H ∧ ∃ Nx : Hp → Prop, (∀ H', Nx H' → ∃ m', m' < m ∧ W (i + 1) m' H') ∧ ∀ x H', (Itr lo n).yld i H x H' → g x (wipe σ vs) H' fun σ2 H2 => wipe σ2 vs = wipe σ vs ∧ tt σ2 H2 fun b H3 =>
        if b = true then te σ2 H3 fun y H4 => ∃ acc, H4 D = some (.lst acc) ∧ acc.length < sizeLine ∧ Nx (upd H4 D (.lst (acc ++ [y]))) else Nx H3) :=
  lc_range (lo := lo) (n := n) (AccAt H1 D acc) (acc_start hD h0) (fun i H hi p => lc_step hi hn hD (hs i H hi p.1 p.2.1) p) (fun H p => hd H p.1 p.2.1)
/-- the list so far of a map -/
def accM {α : Type} (l : List α) (f : α → V) (i : Nat) : List V := (l.take i).map f
theorem accM_succ {α : Type} {l : List α} {f : α → V} {i : Nat} {x : α} (h : l[i]? = some x) : accM l f (i + 1) = accM l f i ++ [f x] := by
  unfold accM
  obtain ⟨hi, rfl⟩ := List.getElem?_eq_some_iff.mp h
  rw [List.take_add_one, List.map_append, List.getElem?_eq_getElem hi]
  rfl
theorem accM_all {α : Type} {l : List α} {f : α → V} {n : Nat} (h : n = l.length) : accM l f n = l.map f := by
  unfold accM
  rw [h, List.take_length]
/-- the list so far of a filter and a map -/
def accF {α : Type} (l : List α) (p : α → Bool) (f : α → V) (i : Nat) : List V := ((l.take i).filter p).map f
theorem accF_yes {α : Type} {l : List α} {p : α → Bool} {f : α → V} {i : Nat} {x : α} (h : l[i]? = some x) (hp : p x = true) : accF l p f (i + 1) = accF l p f i ++ [f x] := by
  unfold accF
  obtain ⟨hi, rfl⟩ := List.getElem?_eq_some_iff.mp h
  rw [List.take_add_one, List.filter_append, List.map_append, List.getElem?_eq_getElem hi]
  simp [hp]
theorem accF_no {α : Type} {l : List α} {p : α → Bool} {f : α → V} {i : Nat} {x : α} (h : l[i]? = some x) (hp : p x = false) : accF l p f (i + 1) = accF l p f i := by
  unfold accF
  obtain ⟨hi, rfl⟩ := List.getElem?_eq_some_iff.mp h
  rw [List.take_add_one, List.filter_append, List.map_append, List.getElem?_eq_getElem hi]
  simp [hp]
theorem accF_all {α : Type} {l : List α} {p : α → Bool} {f : α → V} {n : Nat} (h : n = l.length) : accF l p f n = (l.filter p).map f := by
  unfold accF
  rw [h, List.take_length]
end
end Bw
end
section
set_option Elab.async false
set_option linter.all false
set_option maxRecDepth 100000
set_option maxHeartbeats 4000000
namespace Bw
open PySem PySem.Spec PyProof.Rows L2
section
variable {w : World} {K : PySem.W.Frag} {mg : Str → Option Value} {base : Heap}
def spDir (K : PySem.W.Frag) : Sp := fun vs H Q _ => ∃ (a b : Addr) (x y : Bow), vs = [.ref a, .ref b] ∧ BowT K H a x ∧ BowT K H b y ∧ Q (.str (nmD (dirOf x y))) H
theorem sc_direction_of : FnScope ["one", "other"] ["one", "other"] (defScope s_direction_of) := ⟨rfl, rfl, rfl, by decide +kernel, rfl, by decide +kernel, by decide +kernel⟩
theorem ok_direction_of (c : Cy w K mg base) : Dn PG w K mg base "direction_of" 1 ["one", "other"] (spDir K) := by
  obtain ⟨fd, F⟩ := c.fd_direction_of
  refine ⟨walkD F sc_direction_of (fun vs H Q E h => ?_) (fun cdv A outer s H vs Q E hr h => ?_) fun _ _ _ _ _ _ us hl => match us, hl with | [_, _], _ => rfl, c.m_direction_of, F.kp⟩
  · obtain ⟨a, b, x, y, rfl, _⟩ := h
    rfl
  · obtain ⟨a, b, x, y, rfl, ha, hb, q⟩ := h
    refine ⟨_, (pss_cons (ps_if (PW.pt (pw_or (pt_cmpR op_lt (pe_ix (ix_tup_k (K0 := K) (by rfl)) (pv 0) pe_int (fun _ _ => rfl)) (pe_ix (ix_tup_k (K0 := K) (by rfl)) (pv 1) pe_int (fun _ _ => rfl)) (nomark _)) (pw_or1 (pt_cmpR op_eq (pe_ix (ix_tup_k (K0 := K) (by rfl)) (pv 0) pe_int (fun _ _ => rfl)) (pe_ix (ix_tup_k (K0 := K) (by rfl)) (pv 1) pe_int (fun _ _ => rfl)) (nomark _))))) (pss_one (ps_ret (pe_ifExp (pt_cmpR op_lt (pe_ix (ix_tup_k (K0 := K) (by rfl)) (pv 0) pe_int (fun _ _ => rfl)) (pe_ix (ix_tup_k (K0 := K) (by rfl)) (pv 1) pe_int (fun _ _ => rfl)) (nomark _)) pe_str pe_str))) pss_nil)
      (pss_cons (ps_if (PW.pt (pw_or (pt_cmpR op_lt (pe_ix (ix_tup_k (K0 := K) (by rfl)) (pv 1) pe_int (fun _ _ => rfl)) (pe_ix (ix_tup_k (K0 := K) (by rfl)) (pv 0) pe_int (fun _ _ => rfl)) (nomark _)) (pw_or1 (pt_cmpR op_eq (pe_ix (ix_tup_k (K0 := K) (by rfl)) (pv 1) pe_int (fun _ _ => rfl)) (pe_ix (ix_tup_k (K0 := K) (by rfl)) (pv 0) pe_int (fun _ _ => rfl)) (nomark _))))) (pss_one (ps_ret (pe_ifExp (pt_cmpR op_lt (pe_ix (ix_tup_k (K0 := K) (by rfl)) (pv 1) pe_int (fun _ _ => rfl)) (pe_ix (ix_tup_k (K0 := K) (by rfl)) (pv 0) pe_int (fun _ _ => rfl)) (nomark _)) pe_str pe_str))) pss_nil)
      (pss_cons (ps_if (pt_cmpR op_eq (pe_ix (ix_tup_k (K0 := K) (by rfl)) (pv 0) pe_int (fun _ _ => rfl)) (pe_ix (ix_tup_k (K0 := K) (by rfl)) (pv 1) pe_int (fun _ _ => rfl)) (nomark _)) (pss_cons (ps_if (pt_cmpR op_eq (pe_ix (ix_tup_k (K0 := K) (by rfl)) (pv 0) pe_int (fun _ _ => rfl)) (pe_ix (ix_tup_k (K0 := K) (by rfl)) (pv 1) pe_int (fun _ _ => rfl)) (nomark _)) (pss_one (ps_ret pe_str)) pss_nil)
      (pss_one (ps_ret (pe_ifExp (pt_cmpR op_lt (pe_ix (ix_tup_k (K0 := K) (by rfl)) (pv 0) pe_int (fun _ _ => rfl)) (pe_ix (ix_tup_k (K0 := K) (by rfl)) (pv 1) pe_int (fun _ _ => rfl)) (nomark _)) pe_str pe_str)))) pss_nil)
      (pss_cons (ps_if (pt_cmpR op_eq (pe_ix (ix_tup_k (K0 := K) (by rfl)) (pv 0) pe_int (fun _ _ => rfl)) (pe_ix (ix_tup_k (K0 := K) (by rfl)) (pv 1) pe_int (fun _ _ => rfl)) (nomark _)) (pss_one (ps_ret (pe_ifExp (pt_cmpR op_gt (pe_ix (ix_tup_k (K0 := K) (by rfl)) (pv 0) pe_int (fun _ _ => rfl)) (pe_ix (ix_tup_k (K0 := K) (by rfl)) (pv 1) pe_int (fun _ _ => rfl)) (nomark _)) pe_str pe_str))) pss_nil)
      (pss_cons (ps_if (pt_cmpR op_lt (pe_ix (ix_tup_k (K0 := K) (by rfl)) (pv 0) pe_int (fun _ _ => rfl)) (pe_ix (ix_tup_k (K0 := K) (by rfl)) (pv 1) pe_int (fun _ _ => rfl)) (nomark _)) (pss_one (ps_ret (pe_ifExp (pt_cmpR op_lt (pe_ix (ix_tup_k (K0 := K) (by rfl)) (pv 0) pe_int (fun _ _ => rfl)) (pe_ix (ix_tup_k (K0 := K) (by rfl)) (pv 1) pe_int (fun _ _ => rfl)) (nomark _)) pe_str pe_str))) pss_nil)
      (pss_one (ps_ret (pe_ifExp (pt_cmpR op_lt (pe_ix (ix_tup_k (K0 := K) (by rfl)) (pv 0) pe_int (fun _ _ => rfl)) (pe_ix (ix_tup_k (K0 := K) (by rfl)) (pv 1) pe_int (fun _ _ => rfl)) (nomark _)) pe_str pe_str)))))))), ?_⟩
    have key : ∀ d, dirOf x y = d → Q (V.str (nmD d)) H := fun d e => e ▸ q
    repeat' first
      | refine iteT ?_
      | refine iteF ?_
      | refine iteI (fun h => ?_) (fun h => ?_)
      | refine iteP (fun h => ?_) (fun h => ?_)
      | refine rd1 rfl ha (rd0 rfl hb ⟨_, _, rfl, rfl, _, rfl, ?_⟩)
      | refine rd1 rfl hb (rd0 rfl ha ⟨_, _, rfl, rfl, _, rfl, ?_⟩)
      | refine rd1 rfl ha (rd1 rfl hb ⟨_, _, rfl, rfl, _, rfl, ?_⟩)
      | refine rd0 rfl ha (rd0 rfl hb ⟨_, _, rfl, rfl, _, rfl, ?_⟩)
      | refine rd1 rfl ha (rd0 rfl hb ⟨rfl, _, rfl, ?_⟩)
      | refine rd1 rfl hb (rd0 rfl ha ⟨rfl, _, rfl, ?_⟩)
      | refine rd1 rfl ha (rd1 rfl hb ⟨rfl, _, rfl, ?_⟩)
      | refine rd0 rfl ha (rd0 rfl hb ⟨rfl, _, rfl, ?_⟩)
    all_goals first
      | refine key .before ?_
      | refine key .meets ?_
      | refine key .after ?_
      | refine key .met ?_
      | refine key .same ?_
      | refine key .starts ?_
      | refine key .started ?_
      | refine key .finishes ?_
      | refine key .finished ?_
      | refine key .crosses ?_
      | refine key .holds ?_
      | refine key .inside ?_
      | refine key .crossed ?_
    all_goals (unfold dirOf; (repeat' split) <;> first | rfl | omega)
def spInt : Sp := fun vs H Q _ => ∃ i, vs = [.int i] ∧ Q (.bl true) H
theorem sc_is_integer : FnScope ["thing"] ["thing"] (defScope s_is_integer) := ⟨rfl, rfl, rfl, by decide +kernel, rfl, by decide +kernel, by decide +kernel⟩
theorem ok_is_integer (c : Cy w K mg base) : Dn PG w K mg base "is_integer" 1 ["thing"] spInt := by
  obtain ⟨fd, F⟩ := c.fd_is_integer
  refine ⟨walkD F sc_is_integer (fun vs H Q E h => ?_) (fun cdv A outer s H vs Q E hr h => ?_) fun _ _ _ _ _ _ us hl => match us, hl with | [_], _ => rfl, c.m_is_integer, F.kp⟩
  · obtain ⟨i, rfl, _⟩ := h
    rfl
  · obtain ⟨i, rfl, q⟩ := h
    refine ⟨_, (pss_one (ps_ret (pe_and (pe_callB (call_isi_k (K0 := K) (by rfl)) (by rfl) c.f_isinstance (by decide +kernel) (pa_cons (pv 0) (pa_cons (pe_bltn (v := .ty "int") (by rfl) c.f_int (by decide +kernel) rfl) pa_nil))) (pe_one (pe_not (pe_callB (call_isi_k (K0 := K) (by rfl)) (by rfl) c.f_isinstance (by decide +kernel) (pa_cons (pv 0) (pa_cons (pe_bltn (v := .ty "bool") (by rfl) c.f_bool (by decide +kernel) rfl) pa_nil)))))))), ?_⟩
    refine ⟨_, rfl, _, _, _, _, true, rfl, .ty "int", .base (.int i), kit_ty (by decide +kernel), true, rfl, ?_⟩
    refine iteT ?_
    exact ⟨_, rfl, _, _, _, _, false, rfl, .ty "bool", .base (.int i), kit_ty (by decide +kernel), false, rfl, q⟩
def spPlace : Sp := fun vs H Q _ => ∃ i, vs = [.int i] ∧ Ok1 i ∧ Q (.bl true) H
theorem sc_is_place : FnScope ["thing"] ["thing"] (defScope s_is_place) := ⟨rfl, rfl, rfl, by decide +kernel, rfl, by decide +kernel, by decide +kernel⟩
theorem ok_is_place (c : Cy w K mg base) : Dn PG w K mg base "is_place" 2 ["thing"] spPlace := by
  obtain ⟨fd, F⟩ := c.fd_is_place
  have D_is_integer := ok_is_integer c
  obtain ⟨_, m_MOST_PLACE⟩ := c.i_MOST_PLACE
  refine ⟨walkD F sc_is_place (fun vs H Q E h => ?_) (fun cdv A outer s H vs Q E hr h => ?_) fun _ _ _ _ _ _ us hl => match us, hl with | [_], _ => rfl, c.m_is_place, F.kp⟩
  · obtain ⟨i, rfl, _⟩ := h
    rfl
  · obtain ⟨i, rfl, ⟨g1, g2⟩, q⟩ := h
    refine ⟨_, (pss_one (ps_ret (pe_and (D_is_integer.call (hr.mono (by decide)) rfl (pa_cons (pv 0) pa_nil)) (pe_one (pe_chain op_le op_le (pe_un un_neg (pe_glob (v := .int (10 ^ 30)) rfl m_MOST_PLACE ⟨_, rfl⟩)) (pv 0) (pe_glob (v := .int (10 ^ 30)) rfl m_MOST_PLACE ⟨_, rfl⟩)))))), ?_⟩
    refine ⟨_, rfl, _, rfl, true, rfl, ?_⟩
    refine iteT ?_
    refine ⟨_, rfl, _, rfl, ?_⟩
    refine ⟨_, _, rfl, rfl, _, rfl, iteP (fun _ => ⟨_, _, rfl, rfl, ?_⟩) (fun h => absurd g1 h)⟩
    show Q (.bl (decide (i ≤ 10 ^ 30))) H
    rw [decide_eq_true g2]
    exact q
theorem tyT {K : PySem.W.Frag} {H : Hp} {a : Addr} {xs : List V} (h : SqT K H a xs) : TyX K H (.ref a) (.type "tuple") := by
  rcases h with (h | ⟨o, h⟩) | ⟨o, its, n, h, c, _⟩
  · exact .base (.tup h)
  · exact .fTuple h
  · exact .kTuple h c
theorem tyL {K : PySem.W.Frag} {H : Hp} {a : Addr} {xs : List V} (h : SqL K H a xs) : TyX K H (.ref a) (.type "list") := by
  rcases h with (h | ⟨o, h⟩) | ⟨o, its, n, h, c, _⟩
  · exact .base (.lst h)
  · exact .base (.frz h)
  · exact .kList h c
def spBow (K : PySem.W.Frag) : Sp := fun vs H Q _ => ∃ (a : Addr) (x : Bow), vs = [.ref a] ∧ BowT K H a x ∧ Good x ∧ Q (.bl true) H
theorem sc_is_bow : FnScope ["thing"] ["thing"] (defScope s_is_bow) := ⟨rfl, rfl, rfl, by decide +kernel, rfl, by decide +kernel, by decide +kernel⟩
theorem ok_is_bow (c : Cy w K mg base) : Dn PG w K mg base "is_bow" 3 ["thing"] (spBow K) := by
  obtain ⟨fd, F⟩ := c.fd_is_bow
  have D_is_place := ok_is_place c
  refine ⟨walkD F sc_is_bow (fun vs H Q E h => ?_) (fun cdv A outer s H vs Q E hr h => ?_) fun _ _ _ _ _ _ us hl => match us, hl with | [_], _ => rfl, c.m_is_bow, F.kp⟩
  · obtain ⟨a, x, rfl, _⟩ := h
    rfl
  · obtain ⟨a, x, rfl, ha, ⟨g1, g2, g3⟩, q⟩ := h
    refine ⟨_, (pss_cons (ps_if (PW.pt (pw_or (pt_not (pt_val (pe_callB (call_isi_k (K0 := K) (by rfl)) (by rfl) c.f_isinstance (by decide +kernel) (pa_cons (pv 0) (pa_cons (pe_bltn (v := .ty "tuple") (by rfl) c.f_tuple (by decide +kernel) rfl) pa_nil))))) (pw_or1 (pt_cmpR op_ne (pe_callB (call_len_seq_k (K0 := K) (by rfl)) (by rfl) c.f_len PySem.boot_len (pa_cons (pv 0) pa_nil)) pe_int (nomark _))))) (pss_one (ps_ret pe_bl)) pss_nil)
      (pss_one (ps_ret (pe_and (D_is_place.call (hr.mono (by decide)) rfl (pa_cons (pe_ix (ix_tup_k (K0 := K) (by rfl)) (pv 0) pe_int (fun _ _ => rfl)) pa_nil)) (pe_and (D_is_place.call (hr.mono (by decide)) rfl (pa_cons (pe_ix (ix_tup_k (K0 := K) (by rfl)) (pv 0) pe_int (fun _ _ => rfl)) pa_nil)) (pe_one (pe_cmpR op_lt (pe_ix (ix_tup_k (K0 := K) (by rfl)) (pv 0) pe_int (fun _ _ => rfl)) (pe_ix (ix_tup_k (K0 := K) (by rfl)) (pv 0) pe_int (fun _ _ => rfl)) (nomark _)))))))), ?_⟩
    refine ⟨_, rfl, _, _, _, _, true, rfl, .ty "tuple", tyT ha, kit_ty (by decide +kernel), true, rfl, ?_⟩
    refine iteF ⟨_, rfl, _, _, rfl, .inr ha, rfl, _, rfl, ?_⟩
    refine iteF ?_
    refine rd0 rfl ha ⟨_, rfl, g1, _, rfl, iteT ?_⟩
    refine rd1 rfl ha ⟨_, rfl, g2, _, rfl, iteT ?_⟩
    refine rd0 rfl ha (rd1 rfl ha ⟨_, _, rfl, rfl, ?_⟩)
    show Q (.bl (decide (x.1 < x.2))) H
    rw [decide_eq_true g3]
    exact q
/-- a list or a tuple of bows -/
def BowsIn (K : PySem.W.Frag) (H : Hp) (a : Addr) (bs : Bs) : Prop := (SqL K H a bs.vs ∨ SqT K H a bs.vs) ∧ BowsT K H bs ∧ bs.length ≤ 1000
def spBows (K : PySem.W.Frag) : Sp := fun vs H Q _ => ∃ (a : Addr) (bs : Bs), vs = [.ref a] ∧ BowsIn K H a bs ∧ ∀ H', Same H H' → Q (.bl true) H'
theorem sc_are_bows : FnScope ["thing", "one"] ["thing"] (defScope s_are_bows) := ⟨rfl, rfl, rfl, by decide +kernel, rfl, by decide +kernel, by decide +kernel⟩
theorem ok_are_bows (c : Cy w K mg base) : Dn PG w K mg base "are_bows" 4 ["thing"] (spBows K) := by
  obtain ⟨fd, F⟩ := c.fd_are_bows
  have D_is_bow := ok_is_bow c
  refine ⟨walkD F sc_are_bows (fun vs H Q E h => ?_) (fun cdv A outer s H vs Q E hr h => ?_) fun _ _ _ _ _ _ us hl => match us, hl with | [_], _ => rfl, c.m_are_bows, F.kp⟩
  · obtain ⟨a, x, rfl, _⟩ := h
    rfl
  · obtain ⟨a, bs, rfl, ⟨ha, hb, hlen⟩, q⟩ := h
    have hn : bs.vs.length ≤ sizeLine := by rw [List.length_map]; exact Nat.le_trans hlen (by decide)
    have fin : ∀ (t : Addr) (D : Addr) (H' : Hp), H t = none → Same (upd H t (.tup [.ty "list", .ty "tuple"])) H' → H' D = some (.lst (accM bs.vs (fun _ => V.bl true) bs.vs.length)) → rAll K [V.ref D] H' Q := fun t D H' ht sm e => ⟨D, bs.map fun _ => true, rfl, .inl (.inl (by rw [e, accM_all rfl, List.map_map, List.map_map]; rfl)), by
      rw [show (bs.map fun _ => true).all id = true by rw [List.all_map]; exact List.all_eq_true.mpr fun _ _ => rfl]
      exact q H' ((same_upd ht).trans sm)⟩
    have st : ∀ (t : Addr) (i : Nat) (x : V) (H' : Hp), H t = none → bs.vs[i]? = some x → Same (upd H t (.tup [.ty "list", .ty "tuple"])) H' → Turn (gName 1) tYes (tCall (spBow K) [] E0 (tCons (tVar 1) tNil)) [1] (start ["thing", "one"] [V.ref a]) (accM bs.vs (fun _ => V.bl true) i) (accM bs.vs (fun _ => V.bl true) (i + 1)) x H' := fun t i x H' ht hx sm K1 K0 k1 k0 => by
      obtain ⟨b, hb0, rfl⟩ : ∃ b, bs[i]? = some b ∧ V.ref b.1 = x := by rw [List.getElem?_map] at hx; exact Option.map_eq_some_iff.mp hx
      have h2 := hb b (List.mem_of_getElem? hb0)
      exact ⟨rfl, _, rfl, b.1, b.2, rfl, same_tup ((same_upd ht).trans sm) h2.1, h2.2, k1 _ _ (Same.refl _) (accM_succ (f := fun _ => V.bl true) hx)⟩
    rcases ha with ha | ha
    · have hk : PySem.W.kitAny K (.type "list") [.type "list", .type "tuple"] = some true := kitAny_cons (b := true) (kit_ty (by decide +kernel)) (fun z => nomatch z) fun _ => rfl
      refine ⟨_, (pss_one (ps_ret (pe_and (pe_callB (call_isiT_k (K0 := K) (by rfl)) (by rfl) c.f_isinstance (by decide +kernel) (pa_cons (pv 0) (pa_cons (pe_tup (pa_cons (pe_bltn (v := .ty "list") (by rfl) c.f_list (by decide +kernel) rfl) (pa_cons (pe_bltn (v := .ty "tuple") (by rfl) c.f_tuple (by decide +kernel) rfl) pa_nil))) pa_nil))) (pe_one (pe_callB (cr_all_k (K0 := K) (by rfl) rfl) (by rfl) c.f_all (by decide +kernel) (pa_cons (pe_lc rfl sc_are_bows.nd (pi_list_k (K0 := K) (by rfl) (pv 0)) (blkOk_by (own := [("one", 1)]) (by show blkC ["thing", "one"] (defScope s_are_bows) _ _ = true; decide +kernel)) (fun _ _ _ _ _ => (pg_name (i := 1) sc_are_bows.nd rfl (by first | exact Or.inl rfl | exact Or.inr rfl))) (fun _ _ _ _ _ => pts_nil) (fun _ _ _ _ _ => (D_is_bow.call (hr.mono (by decide)) rfl (pa_cons (pv 1) pa_nil)))) pa_nil)))))), ?_⟩
      refine ⟨_, rfl, by show 2 ≤ sizeLine; decide, fun t ht => ?_⟩
      have s1 : Same H (upd H t (.tup [.ty "list", .ty "tuple"])) := same_upd ht
      refine ⟨_, t, _, _, _, true, rfl, upd_same, .cons (.ty _) (.cons (.ty _) .nil), tyL (s1.seq ha), hk, true, rfl, iteT ?_⟩
      refine ⟨_, rfl, a, rfl, ⟨_, s1.seq ha⟩, fun D hD => ?_⟩
      exact lc_accL (accM bs.vs fun _ => V.bl true) (s1.seq ha) hn hD rfl (fun i x H' hx sm _ => st t i x H' ht hx sm) fun H' sm e => fin t D H' ht sm e
    · have hk : PySem.W.kitAny K (.type "tuple") [.type "list", .type "tuple"] = some true := kitAny_cons (b := false) (kit_ty (by decide +kernel)) (fun _ => kitAny_cons (b := true) (kit_ty (by decide +kernel)) (fun z => nomatch z) fun _ => rfl) fun z => nomatch z
      refine ⟨_, (pss_one (ps_ret (pe_and (pe_callB (call_isiT_k (K0 := K) (by rfl)) (by rfl) c.f_isinstance (by decide +kernel) (pa_cons (pv 0) (pa_cons (pe_tup (pa_cons (pe_bltn (v := .ty "list") (by rfl) c.f_list (by decide +kernel) rfl) (pa_cons (pe_bltn (v := .ty "tuple") (by rfl) c.f_tuple (by decide +kernel) rfl) pa_nil))) pa_nil))) (pe_one (pe_callB (cr_all_k (K0 := K) (by rfl) rfl) (by rfl) c.f_all (by decide +kernel) (pa_cons (pe_lc rfl sc_are_bows.nd (pi_tup_k (K0 := K) (by rfl) (pv 0)) (blkOk_by (own := [("one", 1)]) (by show blkC ["thing", "one"] (defScope s_are_bows) _ _ = true; decide +kernel)) (fun _ _ _ _ _ => (pg_name (i := 1) sc_are_bows.nd rfl (by first | exact Or.inl rfl | exact Or.inr rfl))) (fun _ _ _ _ _ => pts_nil) (fun _ _ _ _ _ => (D_is_bow.call (hr.mono (by decide)) rfl (pa_cons (pv 1) pa_nil)))) pa_nil)))))), ?_⟩
      refine ⟨_, rfl, by show 2 ≤ sizeLine; decide, fun t ht => ?_⟩
      have s1 : Same H (upd H t (.tup [.ty "list", .ty "tuple"])) := same_upd ht
      refine ⟨_, t, _, _, _, true, rfl, upd_same, .cons (.ty _) (.cons (.ty _) .nil), tyT (same_tup s1 ha), hk, true, rfl, iteT ?_⟩
      refine ⟨_, rfl, a, rfl, ⟨_, same_tup s1 ha⟩, fun D hD => ?_⟩
      exact lc_accT (accM bs.vs fun _ => V.bl true) (same_tup s1 ha) hn hD rfl (fun i x H' hx sm _ => st t i x H' ht hx sm) fun H' sm e => fin t D H' ht sm e
end
end Bw
end
section
set_option Elab.async false
set_option linter.all false
set_option maxRecDepth 100000
set_option maxHeartbeats 4000000
namespace Bw
open PySem PySem.Spec PyProof.Rows L2
section
variable {w : World} {K : PySem.W.Frag} {mg : Str → Option Value} {base : Heap}
theorem BowsIn.same {K : PySem.W.Frag} {H H' : Hp} {a : Addr} {bs : Bs} (e : Same H H') (h : BowsIn K H a bs) : BowsIn K H' a bs :=
  ⟨h.1.elim (fun h => .inl (e.seq h)) (fun h => .inr (same_tup e h)), h.2.1.same e, h.2.2⟩
def spRowInit (K : PySem.W.Frag) : Sp := fun vs H Q _ => ∃ (p a dx : Addr) (bs : Bs), vs = [.ref p, .ref a] ∧ H p = some (.ins (He.ga K "Row") dx []) ∧ BowsIn K H a bs ∧
  ∀ H', RowAt K H' p bs → (∀ b o, H b = some o → b ≠ p → H' b = some o) → Q .non H'
theorem sc_Row_init : FnScope ["self", "bows"] ["self", "bows"] (defScope s_Row_init) := ⟨rfl, rfl, rfl, by decide +kernel, rfl, by decide +kernel, by decide +kernel⟩
theorem ok_Row_init (c : Cy w K mg base) : Di PG w K mg base "Row" 5 ["self", "bows"] (spRowInit K) := by
  obtain ⟨fd, F⟩ := c.fd_Row_init
  have D_are_bows := ok_are_bows c
  refine ⟨walkD F sc_Row_init (fun vs H Q E h => ?_) (fun cdv A outer s H vs Q E hr h => ?_) fun _ _ _ _ _ _ us hl => match us, hl with | [_, _], _ => rfl, c.k_Row, c.m_Row⟩
  · obtain ⟨a, b, x, y, rfl, _⟩ := h
    rfl
  · obtain ⟨p, a, dx, bs, rfl, hp, hB, q⟩ := h
    refine ⟨_, (pss_cons (ps_if (pt_not (pt_val (D_are_bows.call (hr.mono (by decide)) rfl (pa_cons (pv 1) pa_nil)))) (pss_one ps_never) pss_nil)
      (pss_one (ps_fld_k (K0 := K) (by rfl) (pv 0) (pe_callTy (call_list_of_k (K0 := K) (by rfl)) (by rfl) c.f_list (by decide +kernel) (pa_cons (pv 1) pa_nil)) rfl))), ?_⟩
    refine ⟨_, rfl, a, bs, rfl, hB, fun H1 s1 => ?_⟩
    refine ⟨_, rfl, iteF ?_⟩
    refine ⟨_, rfl, a, bs.vs, rfl, (hB.same s1).1, fun l hl => ?_⟩
    have hp1 := s1 _ _ hp
    have npl : p ≠ l := ne_of_none hp1 hl
    refine ⟨_, rfl, p, _, dx, _, rfl, (by rw [upd_ne npl]; exact hp1), c.c_Row, c.n_its_bows, (by show 0 < 1000; decide), ?_⟩
    have s2 : ∀ b o, H1 b = some o → b ≠ p → upd (upd H1 l (.lst bs.vs)) p (.ins (He.ga K "Row") dx (putF "its_bows" (V.ref l) [])) b = some o := fun b o e hb => by
      rw [upd_ne hb, upd_ne (ne_of_none e hl)]
      exact e
    refine q _ ⟨⟨dx, l, upd_same, by rw [upd_ne npl.symm, upd_same]⟩, fun b hb => ?_⟩ fun b o e hb => s2 b o (s1 _ _ e) hb
    obtain ⟨h1, h2⟩ := hB.2.1.same s1 b hb
    refine ⟨?_, h2⟩
    rcases h1 with (h1 | ⟨o, h1⟩) | h1
    · exact .inl (.inl (s2 _ _ h1 fun e => by rw [e, hp1] at h1; cases h1))
    · exact .inl (.inr ⟨o, s2 _ _ h1 fun e => by rw [e, hp1] at h1; cases h1⟩)
    · exact .inr h1
/-- Row(bows), for the caller -/
theorem mkRow {H : Hp} {a : Addr} {bs : Bs} {Q : VK} {E : XK} (hB : BowsIn K H a bs) (q : ∀ x H', RowAt K H' x bs → Same H H' → H x = none → Q (.ref x) H') :
    ∀ x dx, H x = none → H dx = none → dx ≠ x → spRowInit K (.ref x :: ([.ref a] ++ [])) (upd (upd H dx (.own x)) x (.ins (He.ga K "Row") dx [])) (fun v H2 => v = .non ∧ Q (.ref x) H2) E := fun x dx hx hdx hne => by
  have s0 : Same H (upd (upd H dx (.own x)) x (.ins (He.ga K "Row") dx [])) := fun b o e => by
    rw [upd_ne (ne_of_none e hx), upd_ne (ne_of_none e hdx)]
    exact e
  exact ⟨x, a, dx, bs, rfl, upd_same, hB.same s0, fun H' hR k => ⟨rfl, q x H' hR (Same.made hx hdx k) hx⟩⟩
def spRowBows (K : PySem.W.Frag) : Sp := fun vs H Q _ => ∃ (p : Addr) (bs : Bs), vs = [.ref p] ∧ RowAt K H p bs ∧ ∀ l, H l = none → Q (.ref l) (upd H l (.lst bs.vs))
theorem sc_Row_bows : FnScope ["self"] ["self"] (defScope s_Row_bows) := ⟨rfl, rfl, rfl, by decide +kernel, rfl, by decide +kernel, by decide +kernel⟩
theorem ok_Row_bows (c : Cy w K mg base) : Dm PG w K mg base "Row" "bows" 1 ["self"] (spRowBows K) := by
  obtain ⟨fd, F⟩ := c.fd_Row_bows
  refine ⟨walkD F sc_Row_bows (fun vs H Q E h => ?_) (fun cdv A outer s H vs Q E hr h => ?_) fun _ _ _ _ _ _ us hl => match us, hl with | [_], _ => rfl, c.t_Row_bows, c.c_Row⟩
  · obtain ⟨a, b, rfl, _⟩ := h
    rfl
  · obtain ⟨p, bs, rfl, hR, q⟩ := h
    obtain ⟨⟨dx, l, hp, hl⟩, hB⟩ := hR
    refine ⟨_, (pss_one (ps_ret (pe_callTy (call_list_of_k (K0 := K) (by rfl)) (by rfl) c.f_list (by decide +kernel) (pa_cons (pe_fld_k (K0 := K) (by rfl) (pv 0)) pa_nil)))), ?_⟩
    exact ⟨_, rfl, p, _, dx, _, _, rfl, hp, c.c_Row, c.n_its_bows, rfl, l, _, rfl, .inl (.inl (.inl hl)), q⟩
def spLen (K : PySem.W.Frag) : Sp := fun vs H Q _ => ∃ (p : Addr) (bs : Bs), vs = [.ref p] ∧ RowAt K H p bs ∧ Q (.int bs.length) H
theorem sc_Row_len : FnScope ["self"] ["self"] (defScope s_Row_len) := ⟨rfl, rfl, rfl, by decide +kernel, rfl, by decide +kernel, by decide +kernel⟩
theorem ok_Row_len (c : Cy w K mg base) : Dm PG w K mg base "Row" "__len__" 1 ["self"] (spLen K) := by
  obtain ⟨fd, F⟩ := c.fd_Row_len
  refine ⟨walkD F sc_Row_len (fun vs H Q E h => ?_) (fun cdv A outer s H vs Q E hr h => ?_) fun _ _ _ _ _ _ us hl => match us, hl with | [_], _ => rfl, c.t_Row_len, c.c_Row⟩
  · obtain ⟨a, b, rfl, _⟩ := h
    rfl
  · obtain ⟨p, bs, rfl, hR, q⟩ := h
    obtain ⟨⟨dx, l, hp, hl⟩, hB⟩ := hR
    refine ⟨_, (pss_one (ps_ret (pe_callB (call_len_seq_k (K0 := K) (by rfl)) (by rfl) c.f_len PySem.boot_len (pa_cons (pe_fld_k (K0 := K) (by rfl) (pv 0)) pa_nil)))), ?_⟩
    refine ⟨_, rfl, p, _, dx, _, _, rfl, hp, c.c_Row, c.n_its_bows, rfl, l, _, rfl, .inl (.inl (.inl hl)), ?_⟩
    show Q (.int (bs.map _).length) H
    rw [List.length_map]
    exact q
def spNeed (K : PySem.W.Frag) : Sp := fun vs H Q _ => ∃ (p : Addr) (bs : Bs) (i : Nat), vs = [.ref p, .int i] ∧ RowAt K H p bs ∧ i < bs.length ∧ Q .non H
theorem sc_Row_need : FnScope ["self", "index"] ["self", "index"] (defScope s_Row_need) := ⟨rfl, rfl, rfl, by decide +kernel, rfl, by decide +kernel, by decide +kernel⟩
theorem ok_Row_need (c : Cy w K mg base) : Dm PG w K mg base "Row" "need" 2 ["self", "index"] (spNeed K) := by
  obtain ⟨fd, F⟩ := c.fd_Row_need
  have D_is_integer := ok_is_integer c
  refine ⟨walkD F sc_Row_need (fun vs H Q E h => ?_) (fun cdv A outer s H vs Q E hr h => ?_) fun _ _ _ _ _ _ us hl => match us, hl with | [_, _], _ => rfl, c.t_Row_need, c.c_Row⟩
  · obtain ⟨a, b, i, rfl, _⟩ := h
    rfl
  · obtain ⟨p, bs, i, rfl, hR, hi, q⟩ := h
    obtain ⟨⟨dx, l, hp, hl⟩, hB⟩ := hR
    refine ⟨_, (pss_one (ps_if (PW.pt (pw_or (pt_not (pt_val (D_is_integer.call (hr.mono (by decide)) rfl (pa_cons (pv 1) pa_nil)))) (pw_or1 (pt_not (pt_chain op_le op_lt pe_int (pv 1) (pe_callB (call_len_seq_k (K0 := K) (by rfl)) (by rfl) c.f_len PySem.boot_len (pa_cons (pe_fld_k (K0 := K) (by rfl) (pv 0)) pa_nil))))))) (pss_one ps_never) pss_nil)), ?_⟩
    refine ⟨_, rfl, _, rfl, _, rfl, iteF ?_⟩
    refine ⟨_, rfl, _, _, rfl, rfl, _, rfl, ?_⟩
    refine iteP (fun _ => ?_) (fun h => absurd (by omega) h)
    refine ⟨_, rfl, p, _, dx, _, _, rfl, hp, c.c_Row, c.n_its_bows, rfl, l, _, rfl, .inl (.inl (.inl hl)), _, _, rfl, rfl, _, rfl, ?_⟩
    have e : decide ((i : Int) < ((bs.vs.length : Nat) : Int)) = true := decide_eq_true (by rw [List.length_map]; omega)
    rw [e]
    exact iteF q
def spGet (K : PySem.W.Frag) : Sp := fun vs H Q _ => ∃ (p : Addr) (bs : Bs) (i : Nat) (b : Addr × Bow), vs = [.ref p, .int i] ∧ RowAt K H p bs ∧ bs[i]? = some b ∧ Q (.ref b.1) H
theorem sc_Row_getitem : FnScope ["self", "index"] ["self", "index"] (defScope s_Row_getitem) := ⟨rfl, rfl, rfl, by decide +kernel, rfl, by decide +kernel, by decide +kernel⟩
theorem ok_Row_getitem (c : Cy w K mg base) : Dm PG w K mg base "Row" "__getitem__" 3 ["self", "index"] (spGet K) := by
  obtain ⟨fd, F⟩ := c.fd_Row_getitem
  have D_Row_need := ok_Row_need c
  refine ⟨walkD F sc_Row_getitem (fun vs H Q E h => ?_) (fun cdv A outer s H vs Q E hr h => ?_) fun _ _ _ _ _ _ us hl => match us, hl with | [_, _], _ => rfl, c.t_Row_getitem, c.c_Row⟩
  · obtain ⟨a, b, i, x, rfl, _⟩ := h
    rfl
  · obtain ⟨p, bs, i, b, rfl, hR, hi, q⟩ := h
    obtain ⟨⟨dx, l, hp, hl⟩, hB⟩ := id hR
    refine ⟨_, (pss_cons (ps_expr (Dm.call (K0 := K) (by rfl) D_Row_need (hr.mono (by decide)) (pv 0) (pa_cons (pv 1) pa_nil)))
      (pss_one (ps_ret (pe_ix (ix_list_k (K0 := K) (by rfl)) (pe_fld_k (K0 := K) (by rfl) (pv 0)) (pv 1) (fun _ _ => rfl))))), ?_⟩
    refine ⟨_, rfl, p, dx, _, rfl, hp, rfl, _, rfl, p, bs, i, rfl, hR, (List.getElem?_eq_some_iff.mp hi).1, ?_⟩
    exact ⟨_, rfl, p, _, dx, _, _, rfl, hp, c.c_Row, c.n_its_bows, rfl, _, rfl, l, _, i, _, rfl, rfl, .inl (.inl hl), atI_nat (by rw [List.getElem?_map, hi]; rfl), q⟩
end
end Bw
end
section
set_option Elab.async false
set_option linter.all false
set_option maxRecDepth 100000
set_option maxHeartbeats 4000000
namespace Bw
open PySem PySem.Spec PyProof.Rows L2
section
variable {w : World} {K : PySem.W.Frag} {mg : Str → Option Value} {base : Heap}
def spWay (K : PySem.W.Frag) : Sp := fun vs H Q _ => ∃ (a b : Addr) (x y : Bow), vs = [.ref a, .ref b] ∧ BowT K H a x ∧ BowT K H b y ∧ ∀ H', Same H H' → Q (.str (nmW (wayOf x y))) H'
def pr1 : List (Key × V) := [(.inr "before", .str "apart"), (.inr "meets", .str "chained"), (.inr "crosses", .str "crossing"), (.inr "starts", .str "begun"), (.inr "finishes", .str "ended")]
def pr2 : List (Key × V) := [(.inr "after", .str "apart"), (.inr "met", .str "chained"), (.inr "crossed", .str "crossing"), (.inr "started", .str "begun"), (.inr "finished", .str "ended")]
def pr3 : List (Key × V) := [(.inr "inside", .str "within"), (.inr "holds", .str "within"), (.inr "same", .str "same")]
theorem pairs_at : ∀ d ∈ allD, valV (mergeK (mergeK (mergeK [] pr1) (mergeK [] pr2)) (mergeK [] pr3)) (.inr (nmD d)) = some (.str (nmW (wayD d))) := by decide +kernel
theorem sc_way_of : FnScope ["one", "other", "pairs"] ["one", "other"] (defScope s_way_of) := ⟨rfl, rfl, rfl, by decide +kernel, rfl, by decide +kernel, by decide +kernel⟩
theorem ok_way_of (c : Cy w K mg base) : Dn PG w K mg base "way_of" 2 ["one", "other"] (spWay K) := by
  obtain ⟨fd, F⟩ := c.fd_way_of
  have D_direction_of := ok_direction_of c
  refine ⟨walkD F sc_way_of (fun vs H Q E h => ?_) (fun cdv A outer s H vs Q E hr h => ?_) fun _ _ _ _ _ _ us hl => match us, hl with | [_, _], _ => rfl, c.m_way_of, F.kp⟩
  · obtain ⟨a, b, x, y, rfl, _⟩ := h
    rfl
  · obtain ⟨a, b, x, y, rfl, ha, hb, q⟩ := h
    have hu := hu_of hr
    refine ⟨_, (pss_cons (ps_set (i := 2) sc_way_of.nd rfl (by first | exact Or.inl rfl | exact Or.inr rfl) (pe_disp (pps_cons pe_str pe_str (pps_cons pe_str pe_str (pps_cons pe_str pe_str (pps_cons pe_str pe_str (pps_cons pe_str pe_str pps_nil))))) (by rfl) (by rfl) (fun z => by cases z) (by decide)))
      (pss_cons (ps_expr (pe_bm_k (K0 := K) (by rfl) PySem.F.plainAttrs_dict PySem.F.slot_dict_update PySem.F.type_dict_update mt_update (pv 2) (pa_cons (pe_disp (pps_cons pe_str pe_str (pps_cons pe_str pe_str (pps_cons pe_str pe_str (pps_cons pe_str pe_str (pps_cons pe_str pe_str pps_nil))))) (by rfl) (by rfl) (fun z => by cases z) (by decide)) pa_nil)))
      (pss_cons (ps_expr (pe_bm_k (K0 := K) (by rfl) PySem.F.plainAttrs_dict PySem.F.slot_dict_update PySem.F.type_dict_update mt_update (pv 2) (pa_cons (pe_disp (pps_cons pe_str pe_str (pps_cons pe_str pe_str (pps_cons pe_str pe_str pps_nil))) (by rfl) (by rfl) (fun z => by cases z) (by decide)) pa_nil)))
      (pss_one (ps_ret (pe_dget hu (pv 2) (D_direction_of.call (hr.mono (by decide)) rfl (pa_cons (pv 0) (pa_cons (pv 1) pa_nil))) (fun _ _ => rfl))))))), ?_⟩
    intro d1 h1
    refine ⟨upd_same, pr1, rfl, by decide, ?_⟩
    refine ⟨_, rfl, .inr (.inr (.inl ⟨rfl, .inl ⟨_, upd_same⟩⟩)), ?_⟩
    intro d2 h2
    refine ⟨upd_same, pr2, rfl, by decide, ?_⟩
    have n12 : d1 ≠ d2 := fun e => by rw [← e, upd_same] at h2; cases h2
    have e1 : ∀ o o', upd (upd (upd (upd H d1 (.dK [])) d1 (.dK (mergeK [] pr1))) d2 o) d2 o' d1 = some (.dK (mergeK [] pr1)) := fun o o' => by rw [upd_ne n12, upd_ne n12, upd_same]
    refine ⟨d1, d2, mergeK [] pr1, mergeK [] pr2, rfl, rfl, n12, e1 _ _, upd_same, by decide +kernel, ?_⟩
    refine ⟨_, rfl, .inr (.inr (.inl ⟨rfl, .inl ⟨_, upd_same⟩⟩)), ?_⟩
    intro d3 h3
    refine ⟨upd_same, pr3, rfl, by decide, ?_⟩
    have n13 : d1 ≠ d3 := fun e => by rw [← e, upd_same] at h3; cases h3
    have h3' : H d3 = none := by
      by_cases e : d3 = d2
      · rw [e]
        cases z : H d2 with
        | none => rfl
        | some o => rw [upd_ne n12.symm, upd_ne n12.symm, z] at h2; cases h2
      · rw [upd_ne n13.symm, upd_ne e, upd_ne e, upd_ne n13.symm, upd_ne n13.symm] at h3
        exact h3
    have h2' : H d2 = none := by rw [upd_ne n12.symm, upd_ne n12.symm] at h2; exact h2
    refine ⟨d1, d3, mergeK (mergeK [] pr1) (mergeK [] pr2), mergeK [] pr3, rfl, rfl, n13, by rw [upd_ne n13, upd_ne n13, upd_same], upd_same, by decide +kernel, ?_⟩
    generalize hH : upd _ d1 (HO.dK (mergeK (mergeK (mergeK [] pr1) (mergeK [] pr2)) (mergeK [] pr3))) = H'
    have sm : Same H H' := fun b o e => by
      rw [← hH]
      have a1 := ne_of_none e h1
      have a2 := ne_of_none e h2'
      have a3 := ne_of_none e h3'
      rw [upd_ne a1, upd_ne a3, upd_ne a3, upd_ne a1, upd_ne a2, upd_ne a2, upd_ne a1, upd_ne a1]
      exact e
    have hd : H' d1 = some (.dK (mergeK (mergeK (mergeK [] pr1) (mergeK [] pr2)) (mergeK [] pr3))) := by rw [← hH, upd_same]
    refine ⟨_, rfl, _, rfl, _, rfl, a, b, x, y, rfl, same_tup sm ha, same_tup sm hb, d1, _, rfl, ?_, q H' sm⟩
    have g := DGet.k (k := .inr (nmD (dirOf x y))) hd
    rw [pairs_at _ (in_allD _)] at g
    exact g
instance : DecidableRel sLt := fun a b => inferInstanceAs (Decidable (a.cps.toList < b.cps.toList))
theorem ways_rise : ((allW.map nmW).Pairwise sLt) := by decide +kernel
theorem waysOf_rise (k : Kd) : (((waysOf k).map nmW).Pairwise sLt) := List.Pairwise.sublist (List.Sublist.map _ List.filter_sublist) ways_rise
theorem sLt_irr (a : Str) : ¬ sLt a a := List.lt_irrefl _
theorem sLt_asy (a b : Str) (h : sLt a b) : ¬ sLt b a := List.lt_asymm h
theorem ways_eq {k : Kd} {ys : List Str} (h : ys.Pairwise sLt) (m : ∀ z, z ∈ ys ↔ z ∈ (waysOf k).map nmW) : ys = (waysOf k).map nmW := eq_of_rise sLt_irr sLt_asy _ _ h (waysOf_rise k) m
theorem inV_str (z : Str) : ∀ l : List Str, inV (.str z) (txs l) = decide (z ∈ l)
  | [] => by rfl
  | y :: l => by
    have ih := inV_str z l
    unfold inV at ih ⊢
    rw [show txs (y :: l) = V.str y :: txs l from rfl, List.any_cons, ih]
    by_cases e : y = z
    · subst e
      simp [eqV]
    · have e' : ¬ z = y := fun h => e h.symm
      simp [eqV, e, e']
theorem flat_txs (l : List Str) : (txs l).all flatV = true := by rw [List.all_map]; exact List.all_eq_true.mpr fun _ _ => rfl
theorem inV_way (k : Kd) (x : Way) : inV (.str (nmW x)) (txs ((waysOf k).map nmW)) = k x := by
  rw [inV_str]
  cases h : k x with
  | true => exact decide_eq_true (List.mem_map.mpr ⟨x, mem_waysOf.mpr h, rfl⟩)
  | false =>
    refine decide_eq_false fun hm => ?_
    obtain ⟨y, hy, e⟩ := List.mem_map.mp hm
    rw [nmW_inj e, mem_waysOf, h] at hy
    cases hy
theorem Cy.ways (c : Cy w K mg base) (H : Hp) : SqT K H (He.ga K "WAYS") (txs (allW.map nmW)) := by
  have h : He.tupB K "WAYS" (ways7.map .str) = true := by
    have := c.says.2
    unfold moreB at this
    exact (He.ba (He.ba this).2).1
  have := He.tupB_ok h H
  rw [List.map_map] at this
  exact this
theorem Cy.sf_Kind (c : Cy w K mg base) : PySem.W.selfFirst K (He.ga K "Kind") = true := by
  have := c.says.2
  unfold moreB at this
  exact (He.ba (He.ba this).1).2
theorem Cy.fi_Row (c : Cy w K mg base) : PySem.W.fnIn K (He.ma K (He.ga K "Row") "__getitem__") = true := by
  have := c.says.2
  unfold moreB at this
  exact (He.ba (He.ba this).1).1
def spIsWay : Sp := fun vs H Q _ => ∃ x : Way, vs = [.str (nmW x)] ∧ Q (.bl true) H
theorem sc_is_way : FnScope ["thing"] ["thing"] (defScope s_is_way) := ⟨rfl, rfl, rfl, by decide +kernel, rfl, by decide +kernel, by decide +kernel⟩
theorem ok_is_way (c : Cy w K mg base) : Dn PG w K mg base "is_way" 1 ["thing"] spIsWay := by
  obtain ⟨fd, F⟩ := c.fd_is_way
  refine ⟨walkD F sc_is_way (fun vs H Q E h => ?_) (fun cdv A outer s H vs Q E hr h => ?_) fun _ _ _ _ _ _ us hl => match us, hl with | [_], _ => rfl, c.m_is_way, F.kp⟩
  · obtain ⟨x, rfl, _⟩ := h
    rfl
  · obtain ⟨x, rfl, q⟩ := h
    refine ⟨_, (pss_one (ps_ret (pe_and (pe_callB (call_isi_k (K0 := K) (by rfl)) (by rfl) c.f_isinstance (by decide +kernel) (pa_cons (pv 0) (pa_cons (pe_bltn (v := .ty "str") (by rfl) c.f_str (by decide +kernel) rfl) pa_nil))) (pe_one (pe_cmpR (op_in_seq_k (K0 := K) (by rfl)) (pv 0) (pe_glob (v := .ref (He.ga K "WAYS")) rfl c.m_WAYS rfl) (by rfl)))))), ?_⟩
    refine ⟨_, rfl, _, _, _, _, true, rfl, .ty "str", .base (.str _), kit_ty (by decide +kernel), true, rfl, iteT ?_⟩
    refine ⟨_, rfl, _, _, rfl, .inr (c.ways H), rfl, flat_txs _, ?_⟩
    show Q (.bl (inV _ _)) H
    rw [inV_str, decide_eq_true (List.mem_map.mpr ⟨x, in_allW x, rfl⟩)]
    exact q
/-- a list of ways -/
abbrev wsV (ws : List Way) : List V := txs (ws.map nmW)
def spAreWays (K : PySem.W.Frag) : Sp := fun vs H Q _ => ∃ (a : Addr) (ws : List Way), vs = [.ref a] ∧ SqL K H a (wsV ws) ∧ ws.length ≤ 1000 ∧ ∀ H', Same H H' → Q (.bl true) H'
theorem sc_are_ways : FnScope ["thing", "one"] ["thing"] (defScope s_are_ways) := ⟨rfl, rfl, rfl, by decide +kernel, rfl, by decide +kernel, by decide +kernel⟩
theorem ok_are_ways (c : Cy w K mg base) : Dn PG w K mg base "are_ways" 2 ["thing"] (spAreWays K) := by
  obtain ⟨fd, F⟩ := c.fd_are_ways
  have D_is_way := ok_is_way c
  refine ⟨walkD F sc_are_ways (fun vs H Q E h => ?_) (fun cdv A outer s H vs Q E hr h => ?_) fun _ _ _ _ _ _ us hl => match us, hl with | [_], _ => rfl, c.m_are_ways, F.kp⟩
  · obtain ⟨a, x, rfl, _⟩ := h
    rfl
  · obtain ⟨a, ws, rfl, ha, hlen, q⟩ := h
    have hn : (wsV ws).length ≤ sizeLine := by rw [List.length_map, List.length_map]; exact Nat.le_trans hlen (by decide)
    have hk : PySem.W.kitAny K (.type "list") [.type "list", .type "tuple"] = some true := kitAny_cons (b := true) (kit_ty (by decide +kernel)) (fun z => nomatch z) fun _ => rfl
    refine ⟨_, (pss_one (ps_ret (pe_and (pe_callB (call_isiT_k (K0 := K) (by rfl)) (by rfl) c.f_isinstance (by decide +kernel) (pa_cons (pv 0) (pa_cons (pe_tup (pa_cons (pe_bltn (v := .ty "list") (by rfl) c.f_list (by decide +kernel) rfl) (pa_cons (pe_bltn (v := .ty "tuple") (by rfl) c.f_tuple (by decide +kernel) rfl) pa_nil))) pa_nil))) (pe_one (pe_callB (cr_all_k (K0 := K) (by rfl) rfl) (by rfl) c.f_all (by decide +kernel) (pa_cons (pe_lc rfl sc_are_ways.nd (pi_list_k (K0 := K) (by rfl) (pv 0)) (blkOk_by (own := [("one", 1)]) (by show blkC ["thing", "one"] (defScope s_are_ways) _ _ = true; decide +kernel)) (fun _ _ _ _ _ => (pg_name (i := 1) sc_are_ways.nd rfl (by first | exact Or.inl rfl | exact Or.inr rfl))) (fun _ _ _ _ _ => pts_nil) (fun _ _ _ _ _ => (D_is_way.call (hr.mono (by decide)) rfl (pa_cons (pv 1) pa_nil)))) pa_nil)))))), ?_⟩
    refine ⟨_, rfl, by show 2 ≤ sizeLine; decide, fun t ht => ?_⟩
    have s1 : Same H (upd H t (.tup [.ty "list", .ty "tuple"])) := same_upd ht
    refine ⟨_, t, _, _, _, true, rfl, upd_same, .cons (.ty _) (.cons (.ty _) .nil), tyL (s1.seq ha), hk, true, rfl, iteT ?_⟩
    refine ⟨_, rfl, a, rfl, ⟨_, s1.seq ha⟩, fun D hD => ?_⟩
    refine lc_accL (accM (wsV ws) fun _ => V.bl true) (s1.seq ha) hn hD rfl (fun i x H' hx sm _ K1 K0 k1 k0 => ?_) fun H' sm e => ?_
    · obtain ⟨z, hz, rfl⟩ : ∃ z, ws[i]? = some z ∧ V.str (nmW z) = x := by
        rw [List.getElem?_map, List.getElem?_map, Option.map_map] at hx
        exact Option.map_eq_some_iff.mp hx
      exact ⟨rfl, _, rfl, z, rfl, k1 _ _ (Same.refl _) (accM_succ (f := fun _ => V.bl true) hx)⟩
    · refine ⟨D, ws.map fun _ => true, rfl, .inl (.inl (by rw [e, accM_all rfl, List.map_map, List.map_map, List.map_map]; rfl)), ?_⟩
      rw [show (ws.map fun _ => true).all id = true by rw [List.all_map]; exact List.all_eq_true.mpr fun _ _ => rfl]
      exact q H' (s1.trans sm)
def spKindInit (K : PySem.W.Frag) : Sp := fun vs H Q _ => ∃ (p a dx : Addr) (ws : List Way), vs = [.ref p, .ref a] ∧ H p = some (.ins (He.ga K "Kind") dx []) ∧ SqL K H a (wsV ws) ∧ ws.length ≤ 1000 ∧
  ∀ H', KindAt K H' p (fun x => decide (x ∈ ws)) → (∀ b o, H b = some o → b ≠ p → H' b = some o) → Q .non H'
theorem sc_Kind_init : FnScope ["self", "ways"] ["self", "ways"] (defScope s_Kind_init) := ⟨rfl, rfl, rfl, by decide +kernel, rfl, by decide +kernel, by decide +kernel⟩
theorem ok_Kind_init (c : Cy w K mg base) : Di PG w K mg base "Kind" 3 ["self", "ways"] (spKindInit K) := by
  obtain ⟨fd, F⟩ := c.fd_Kind_init
  have D_are_ways := ok_are_ways c
  refine ⟨walkD F sc_Kind_init (fun vs H Q E h => ?_) (fun cdv A outer s H vs Q E hr h => ?_) fun _ _ _ _ _ _ us hl => match us, hl with | [_, _], _ => rfl, c.k_Kind, c.m_Kind⟩
  · obtain ⟨a, b, x, y, rfl, _⟩ := h
    rfl
  · obtain ⟨p, a, dx, ws, rfl, hp, ha, hl, q⟩ := h
    refine ⟨_, (pss_cons (ps_if (pt_not (pt_val (D_are_ways.call (hr.mono (by decide)) rfl (pa_cons (pv 1) pa_nil)))) (pss_one ps_never) pss_nil)
      (pss_one (ps_fld_k (K0 := K) (by rfl) (pv 0) (pe_sortedSet_k (K0 := K) (by rfl) rfl (by rfl) c.f_sorted (by rfl) c.f_set (pv 1)) rfl))), ?_⟩
    refine ⟨_, rfl, a, ws, rfl, ha, hl, fun H1 s1 => ?_⟩
    refine ⟨_, rfl, iteF ?_⟩
    refine ⟨_, rfl, a, _, rfl, s1.seq ha, by rw [List.length_map]; exact hl, fun l ys hl2 hys hm => ?_⟩
    have hp1 := s1 _ _ hp
    have npl : p ≠ l := ne_of_none hp1 hl2
    refine ⟨_, rfl, p, _, dx, _, rfl, (by rw [upd_ne npl]; exact hp1), c.c_Kind, c.n_its_ways, (by show 0 < 1000; decide), ?_⟩
    have ey : ys = (waysOf fun x => decide (x ∈ ws)).map nmW := ways_eq hys fun z => by
      rw [hm z, List.mem_map, List.mem_map]
      refine ⟨fun ⟨x, h1, h2⟩ => ⟨x, mem_waysOf.mpr (decide_eq_true h1), h2⟩, fun ⟨x, h1, h2⟩ => ⟨x, of_decide_eq_true (mem_waysOf.mp h1), h2⟩⟩
    refine q _ ⟨⟨dx, l, upd_same, by rw [upd_ne npl.symm, upd_same, ey]⟩⟩ fun b o e hb => ?_
    have e1 := s1 _ _ e
    rw [upd_ne hb, upd_ne (ne_of_none e1 hl2)]
    exact e1
/-- Kind(ways), for the caller -/
theorem mkKind {H : Hp} {a : Addr} {ws : List Way} {Q : VK} {E : XK} (ha : SqL K H a (wsV ws)) (hl : ws.length ≤ 1000) (q : ∀ x H', KindAt K H' x (fun x => decide (x ∈ ws)) → Same H H' → H x = none → Q (.ref x) H') :
    ∀ x dx, H x = none → H dx = none → dx ≠ x → spKindInit K (.ref x :: ([.ref a] ++ [])) (upd (upd H dx (.own x)) x (.ins (He.ga K "Kind") dx [])) (fun v H2 => v = .non ∧ Q (.ref x) H2) E := fun x dx hx hdx hne => by
  have s0 : Same H (upd (upd H dx (.own x)) x (.ins (He.ga K "Kind") dx [])) := fun b o e => by
    rw [upd_ne (ne_of_none e hx), upd_ne (ne_of_none e hdx)]
    exact e
  exact ⟨x, a, dx, ws, rfl, upd_same, s0.seq ha, hl, fun H' hR k => ⟨rfl, q x H' hR (Same.made hx hdx k) hx⟩⟩
end
end Bw
end
section
set_option Elab.async false
set_option linter.all false
set_option maxRecDepth 100000
set_option maxHeartbeats 4000000
namespace Bw
open PySem PySem.Spec PyProof.Rows L2
section
variable {w : World} {K : PySem.W.Frag} {mg : Str → Option Value} {base : Heap}
def spKindWays (K : PySem.W.Frag) : Sp := fun vs H Q _ => ∃ (p : Addr) (k : Kd), vs = [.ref p] ∧ KindAt K H p k ∧ ∀ l, H l = none → Q (.ref l) (upd H l (.lst (wsV (waysOf k))))
theorem sc_Kind_ways : FnScope ["self"] ["self"] (defScope s_Kind_ways) := ⟨rfl, rfl, rfl, by decide +kernel, rfl, by decide +kernel, by decide +kernel⟩
theorem ok_Kind_ways (c : Cy w K mg base) : Dm PG w K mg base "Kind" "ways" 1 ["self"] (spKindWays K) := by
  obtain ⟨fd, F⟩ := c.fd_Kind_ways
  refine ⟨walkD F sc_Kind_ways (fun vs H Q E h => ?_) (fun cdv A outer s H vs Q E hr h => ?_) fun _ _ _ _ _ _ us hl => match us, hl with | [_], _ => rfl, c.t_Kind_ways, c.c_Kind⟩
  · obtain ⟨a, b, rfl, _⟩ := h
    rfl
  · obtain ⟨p, k, rfl, ⟨dx, l, hp, hl⟩, q⟩ := h
    refine ⟨_, (pss_one (ps_ret (pe_callTy (call_list_of_k (K0 := K) (by rfl)) (by rfl) c.f_list (by decide +kernel) (pa_cons (pe_fld_k (K0 := K) (by rfl) (pv 0)) pa_nil)))), ?_⟩
    exact ⟨_, rfl, p, _, dx, _, _, rfl, hp, c.c_Kind, c.n_its_ways, rfl, l, _, rfl, .inl (.inl (.inl hl)), q⟩
def spLets (K : PySem.W.Frag) : Sp := fun vs H Q _ => ∃ (p a b : Addr) (k : Kd) (x y : Bow), vs = [.ref p, .ref a, .ref b] ∧ KindAt K H p k ∧ BowT K H a x ∧ BowT K H b y ∧ ∀ H', Same H H' → Q (.bl (k (wayOf x y))) H'
theorem sc_Kind_lets : FnScope ["self", "one", "other"] ["self", "one", "other"] (defScope s_Kind_lets) := ⟨rfl, rfl, rfl, by decide +kernel, rfl, by decide +kernel, by decide +kernel⟩
theorem ok_Kind_lets (c : Cy w K mg base) : Dm PG w K mg base "Kind" "lets" 3 ["self", "one", "other"] (spLets K) := by
  obtain ⟨fd, F⟩ := c.fd_Kind_lets
  have D_way_of := ok_way_of c
  refine ⟨walkD F sc_Kind_lets (fun vs H Q E h => ?_) (fun cdv A outer s H vs Q E hr h => ?_) fun _ _ _ _ _ _ us hl => match us, hl with | [_, _, _], _ => rfl, c.t_Kind_lets, c.c_Kind⟩
  · obtain ⟨a, b, d, k, x, y, rfl, _⟩ := h
    rfl
  · obtain ⟨p, a, b, k, x, y, rfl, hk, ha, hb, q⟩ := h
    refine ⟨_, (pss_one (ps_ret (pe_cmpR (op_in_seq_k (K0 := K) (by rfl)) (D_way_of.call (hr.mono (by decide)) rfl (pa_cons (pv 1) (pa_cons (pv 2) pa_nil))) (pe_fld_k (K0 := K) (by rfl) (pv 0)) (by rfl)))), ?_⟩
    refine ⟨_, rfl, _, rfl, a, b, x, y, rfl, ha, hb, fun H' sm => ?_⟩
    obtain ⟨dx, l, hp, hl⟩ := hk.same sm
    refine ⟨_, rfl, p, _, dx, _, _, rfl, hp, c.c_Kind, c.n_its_ways, rfl, l, _, rfl, .inl (.inl (.inl hl)), rfl, flat_txs _, ?_⟩
    show Q (.bl (inV _ _)) H'
    rw [inV_way]
    exact q H' sm
def spContains (K : PySem.W.Frag) : Sp := fun vs H Q _ => ∃ (p : Addr) (k : Kd) (x : Way), vs = [.ref p, .str (nmW x)] ∧ KindAt K H p k ∧ Q (.bl (k x)) H
theorem sc_Kind_contains : FnScope ["self", "thing"] ["self", "thing"] (defScope s_Kind_contains) := ⟨rfl, rfl, rfl, by decide +kernel, rfl, by decide +kernel, by decide +kernel⟩
theorem ok_Kind_contains (c : Cy w K mg base) : Dm PG w K mg base "Kind" "__contains__" 2 ["self", "thing"] (spContains K) := by
  obtain ⟨fd, F⟩ := c.fd_Kind_contains
  have D_is_way := ok_is_way c
  refine ⟨walkD F sc_Kind_contains (fun vs H Q E h => ?_) (fun cdv A outer s H vs Q E hr h => ?_) fun _ _ _ _ _ _ us hl => match us, hl with | [_, _], _ => rfl, c.t_Kind_contains, c.c_Kind⟩
  · obtain ⟨a, b, x, rfl, _⟩ := h
    rfl
  · obtain ⟨p, k, x, rfl, ⟨dx, l, hp, hl⟩, q⟩ := h
    refine ⟨_, (pss_one (ps_ret (pe_and (D_is_way.call (hr.mono (by decide)) rfl (pa_cons (pv 1) pa_nil)) (pe_one (pe_cmpR (op_in_seq_k (K0 := K) (by rfl)) (pv 1) (pe_fld_k (K0 := K) (by rfl) (pv 0)) (by rfl)))))), ?_⟩
    refine ⟨_, rfl, x, rfl, _, rfl, iteT ?_⟩
    refine ⟨_, rfl, _, rfl, p, _, dx, _, _, rfl, hp, c.c_Kind, c.n_its_ways, rfl, l, _, rfl, .inl (.inl (.inl hl)), rfl, flat_txs _, ?_⟩
    show Q (.bl (inV _ _)) H
    rw [inV_way]
    exact q
theorem ok_Kind_iter (c : Cy w K mg base) : Dt PG w K mg base "Kind" "its_ways" 1 := by
  obtain ⟨fd, F⟩ := c.fd_Kind_iter
  exact ⟨iter_run F ⟨rfl, rfl, rfl, by decide +kernel, rfl, by decide +kernel, by decide +kernel⟩ (F.bindsN fun _ _ _ _ _ _ us hl => match us, hl with | [_], _ => rfl) rfl (by decide +kernel) (by decide +kernel) c.f_iter c.c_Kind c.n_its_ways, c.t_Kind_iter⟩
theorem ok_Row_iter (c : Cy w K mg base) : Dt PG w K mg base "Row" "its_bows" 1 := by
  obtain ⟨fd, F⟩ := c.fd_Row_iter
  exact ⟨iter_run F ⟨rfl, rfl, rfl, by decide +kernel, rfl, by decide +kernel, by decide +kernel⟩ (F.bindsN fun _ _ _ _ _ _ us hl => match us, hl with | [_], _ => rfl) rfl (by decide +kernel) (by decide +kernel) c.f_iter c.c_Row c.n_its_bows, c.t_Row_iter⟩
def spInvert (K : PySem.W.Frag) : Sp := fun vs H Q _ => ∃ (p : Addr) (k : Kd), vs = [.ref p] ∧ KindAt K H p k ∧ ∀ x H', KindAt K H' x (fun y => !k y) → Same H H' → Q (.ref x) H'
theorem sc_Kind_invert : FnScope ["self", "way"] ["self"] (defScope s_Kind_invert) := ⟨rfl, rfl, rfl, by decide +kernel, rfl, by decide +kernel, by decide +kernel⟩
theorem ok_Kind_invert (c : Cy w K mg base) : Dm PG w K mg base "Kind" "__invert__" 5 ["self"] (spInvert K) := by
  obtain ⟨fd, F⟩ := c.fd_Kind_invert
  have D_Kind___init__ := ok_Kind_init c
  refine ⟨walkD F sc_Kind_invert (fun vs H Q E h => ?_) (fun cdv A outer s H vs Q E hr h => ?_) fun _ _ _ _ _ _ us hl => match us, hl with | [_], _ => rfl, c.t_Kind_invert, c.c_Kind⟩
  · obtain ⟨a, b, rfl, _⟩ := h
    rfl
  · obtain ⟨p, k, rfl, hk, q⟩ := h
    refine ⟨_, (pss_one (ps_ret (Di.make (K0 := K) (by rfl) D_Kind___init__ (hr.mono (by decide)) rfl (pa_cons (pe_lc rfl sc_Kind_invert.nd (pi_tup_k (K0 := K) (by rfl) (pe_glob (v := .ref (He.ga K "WAYS")) rfl c.m_WAYS rfl)) (blkOk_by (own := [("way", 1)]) (by show blkC ["self", "way"] (defScope s_Kind_invert) _ _ = true; decide +kernel)) (fun _ _ _ _ _ => (pg_name (i := 1) sc_Kind_invert.nd rfl (by first | exact Or.inl rfl | exact Or.inr rfl))) (fun _ _ _ _ _ => (pts_one (pt_cmpR (op_notIn_seq_k (K0 := K) (by rfl)) (pv 1) (pe_fld_k (K0 := K) (by rfl) (pv 0)) (by rfl)))) (fun _ _ _ _ _ => (pv 1))) pa_nil)))), ?_⟩
    refine ⟨_, rfl, ⟨_, c.ways H⟩, fun D hD => ?_⟩
    refine lc_accT (accF (allW.map nmW) (fun z => !inV (.str z) (wsV (waysOf k))) V.str) (c.ways H) (by decide) hD rfl (fun i x H' hx sm _ K1 K0 k1 k0 => ?_) fun H' sm e => ?_
    · obtain ⟨z, hz, rfl⟩ : ∃ z, (allW.map nmW)[i]? = some z ∧ V.str z = x := by
        rw [List.getElem?_map] at hx
        exact Option.map_eq_some_iff.mp hx
      obtain ⟨dx, l, hp, hl⟩ := hk.same sm
      refine ⟨rfl, _, rfl, _, rfl, p, _, dx, _, _, rfl, hp, c.c_Kind, c.n_its_ways, rfl, l, _, rfl, .inl (.inl (.inl hl)), rfl, flat_txs _, _, rfl, ?_⟩
      refine iteB (fun h => ?_) (fun h => ?_)
      · exact ⟨_, rfl, k1 _ _ (Same.refl _) (accF_yes hz h)⟩
      · exact k0 _ (Same.refl _) (accF_no hz h)
    · rw [accF_all (by decide)] at e
      have e2 : ((allW.map nmW).filter fun z => !inV (.str z) (wsV (waysOf k))).map V.str = wsV (allW.filter fun y => !k y) := by
        rw [List.filter_map]
        have e3 : ((fun z => !inV (.str z) (wsV (waysOf k))) ∘ nmW) = fun y => !k y := funext fun y => by
          show (!inV (.str (nmW y)) (txs ((waysOf k).map nmW))) = !k y
          rw [inV_way]
        rw [e3]
      rw [e2] at e
      refine mkKind (ws := allW.filter fun y => !k y) (.inl (.inl e)) (Nat.le_trans (List.length_filter_le _ _) (by decide)) fun x H2 hx s2 _ => ?_
      refine q x H2 ?_ (sm.trans s2)
      have e4 : (fun y => decide (y ∈ allW.filter fun y => !k y)) = fun y => !k y := funext fun y => by
        by_cases h : k y = true
        · rw [h]
          exact decide_eq_false fun hm => by have := (List.mem_filter.mp hm).2; rw [h] at this; cases this
        · have h' : k y = false := by cases z : k y with
            | false => rfl
            | true => exact absurd z h
          rw [h']
          exact decide_eq_true (List.mem_filter.mpr ⟨in_allW y, by rw [h']; rfl⟩)
      rw [e4] at hx
      exact hx
def spOr (K : PySem.W.Frag) : Sp := fun vs H Q _ => ∃ (p p2 : Addr) (k k2 : Kd), vs = [.ref p, .ref p2] ∧ KindAt K H p k ∧ KindAt K H p2 k2 ∧ ∀ x H', KindAt K H' x (fun y => k y || k2 y) → Same H H' → Q (.ref x) H'
theorem sc_Kind_or : FnScope ["self", "other"] ["self", "other"] (defScope s_Kind_or) := ⟨rfl, rfl, rfl, by decide +kernel, rfl, by decide +kernel, by decide +kernel⟩
theorem ok_Kind_or (c : Cy w K mg base) : Dm PG w K mg base "Kind" "__or__" 5 ["self", "other"] (spOr K) := by
  obtain ⟨fd, F⟩ := c.fd_Kind_or
  have D_Kind___init__ := ok_Kind_init c
  have D_Kind_ways := ok_Kind_ways c
  refine ⟨walkD F sc_Kind_or (fun vs H Q E h => ?_) (fun cdv A outer s H vs Q E hr h => ?_) fun _ _ _ _ _ _ us hl => match us, hl with | [_, _], _ => rfl, c.t_Kind_or, c.c_Kind⟩
  · obtain ⟨a, b, k, k2, rfl, _⟩ := h
    rfl
  · obtain ⟨p, p2, k, k2, rfl, hk, hk2, q⟩ := h
    refine ⟨_, (pss_one (ps_ret (Di.make (K0 := K) (by rfl) D_Kind___init__ (hr.mono (by decide)) rfl (pa_cons (pe_op op_cat (pe_fld_k (K0 := K) (by rfl) (pv 0)) (Dm.call0 (K0 := K) (by rfl) D_Kind_ways (hr.mono (by decide)) (pv 1))) pa_nil)))), ?_⟩
    obtain ⟨dx, l, hp, hl⟩ := id hk
    obtain ⟨dx2, l2, hp2, hl2⟩ := id hk2
    refine ⟨_, rfl, p, _, dx, _, _, rfl, hp, c.c_Kind, c.n_its_ways, rfl, ?_⟩
    refine ⟨_, rfl, p2, dx2, _, rfl, hp2, rfl, p2, k2, rfl, hk2, fun m hm => ?_⟩
    have sm : Same H (upd H m (.lst (wsV (waysOf k2)))) := same_upd hm
    refine ⟨l, m, _, _, rfl, rfl, sm _ _ hl, upd_same, Nat.le_trans (m := 14) ?_ (by decide), fun n hn => ?_⟩
    · simp only [List.length_map]
      have h1 := List.length_filter_le k allW
      have h2 := List.length_filter_le k2 allW
      have h3 : allW.length = 7 := rfl
      show (waysOf k).length + (waysOf k2).length ≤ 14
      unfold waysOf
      omega
    have s2 : Same H (upd (upd H m (.lst (wsV (waysOf k2)))) n (.lst (txs ((waysOf k).map nmW) ++ wsV (waysOf k2)))) := sm.trans (same_upd hn)
    refine mkKind (ws := waysOf k ++ waysOf k2) (.inl (.inl (by rw [upd_same]; unfold wsV txs; rw [List.map_append, List.map_append]))) ?_ fun x H2 hx s3 _ => q x H2 ?_ (s2.trans s3)
    · have h1 := List.length_filter_le k allW
      have h2 := List.length_filter_le k2 allW
      have h3 : allW.length = 7 := rfl
      rw [List.length_append]
      unfold waysOf
      omega
    · have e4 : (fun y => decide (y ∈ waysOf k ++ waysOf k2)) = fun y => k y || k2 y := funext fun y => by
        rw [Bool.eq_iff_iff, decide_eq_true_eq, List.mem_append, mem_waysOf, mem_waysOf, Bool.or_eq_true]
      rw [e4] at hx
      exact hx
def spTurnedBow (K : PySem.W.Frag) : Sp := fun vs H Q _ => ∃ (a : Addr) (x : Bow), vs = [.ref a] ∧ BowT K H a x ∧ ∀ t, H t = none → Q (.ref t) (upd H t (.tup [.int (-x.2), .int (-x.1)]))
theorem sc_turned_bow : FnScope ["bow"] ["bow"] (defScope s_turned_bow) := ⟨rfl, rfl, rfl, by decide +kernel, rfl, by decide +kernel, by decide +kernel⟩
theorem ok_turned_bow (c : Cy w K mg base) : Dn PG w K mg base "turned_bow" 1 ["bow"] (spTurnedBow K) := by
  obtain ⟨fd, F⟩ := c.fd_turned_bow
  refine ⟨walkD F sc_turned_bow (fun vs H Q E h => ?_) (fun cdv A outer s H vs Q E hr h => ?_) fun _ _ _ _ _ _ us hl => match us, hl with | [_], _ => rfl, c.m_turned_bow, F.kp⟩
  · obtain ⟨a, b, rfl, _⟩ := h
    rfl
  · obtain ⟨a, x, rfl, ha, q⟩ := h
    refine ⟨_, (pss_one (ps_ret (pe_tup (pa_cons (pe_un un_neg (pe_ix (ix_tup_k (K0 := K) (by rfl)) (pv 0) pe_int (fun _ _ => rfl))) (pa_cons (pe_un un_neg (pe_ix (ix_tup_k (K0 := K) (by rfl)) (pv 0) pe_int (fun _ _ => rfl))) pa_nil))))), ?_⟩
    refine rd1 rfl ha ⟨_, rfl, ?_⟩
    refine rd0 rfl ha ⟨_, rfl, ?_⟩
    exact ⟨by show 2 ≤ sizeLine; decide, q⟩
def turn1 (x : Bow) : Bow := (-x.2, -x.1)
theorem turn1_good {x : Bow} (h : Good x) : Good (turn1 x) := by
  obtain ⟨⟨a, b⟩, ⟨d, e⟩, f⟩ := h
  refine ⟨⟨?_, ?_⟩, ⟨?_, ?_⟩, ?_⟩ <;> (unfold turn1; dsimp only; omega)
def spTurned (K : PySem.W.Frag) : Sp := fun vs H Q _ => ∃ (p : Addr) (bs : Bs), vs = [.ref p] ∧ RowAt K H p bs ∧ bs.length ≤ 1000 ∧ ∀ x H' bs', RowAt K H' x bs' → bs'.bows = bs.bows.map turn1 → Same H H' → Q (.ref x) H'
theorem sc_Row_turned : FnScope ["self", "bow"] ["self"] (defScope s_Row_turned) := ⟨rfl, rfl, rfl, by decide +kernel, rfl, by decide +kernel, by decide +kernel⟩
theorem ok_Row_turned (c : Cy w K mg base) : Dm PG w K mg base "Row" "turned" 7 ["self"] (spTurned K) := by
  obtain ⟨fd, F⟩ := c.fd_Row_turned
  have D_Row___init__ := ok_Row_init c
  have D_turned_bow := ok_turned_bow c
  refine ⟨walkD F sc_Row_turned (fun vs H Q E h => ?_) (fun cdv A outer s H vs Q E hr h => ?_) fun _ _ _ _ _ _ us hl => match us, hl with | [_], _ => rfl, c.t_Row_turned, c.c_Row⟩
  · obtain ⟨a, b, rfl, _⟩ := h
    rfl
  · obtain ⟨p, bs, rfl, hR, hlen, q⟩ := h
    refine ⟨_, (pss_one (ps_ret (Di.make (K0 := K) (by rfl) D_Row___init__ (hr.mono (by decide)) rfl (pa_cons (pe_lc rfl sc_Row_turned.nd (pi_list_k (K0 := K) (by rfl) (pe_fld_k (K0 := K) (by rfl) (pv 0))) (blkOk_by (own := [("bow", 1)]) (by show blkC ["self", "bow"] (defScope s_Row_turned) _ _ = true; decide +kernel)) (fun _ _ _ _ _ => (pg_name (i := 1) sc_Row_turned.nd rfl (by first | exact Or.inl rfl | exact Or.inr rfl))) (fun _ _ _ _ _ => pts_nil) (fun _ _ _ _ _ => (D_turned_bow.call (hr.mono (by decide)) rfl (pa_cons (pv 1) pa_nil)))) pa_nil)))), ?_⟩
    obtain ⟨⟨dx, l, hp, hl⟩, hB⟩ := id hR
    refine ⟨_, rfl, p, _, dx, _, _, rfl, hp, c.c_Row, c.n_its_bows, rfl, l, rfl, ⟨_, .inl (.inl hl)⟩, fun D hD => ?_⟩
    refine lc_list (K := K) (a := l) (xs := bs.vs) (fun i H' => Same H H' ∧ ∃ bs' : Bs, H' D = some (.lst bs'.vs) ∧ bs'.bows = (bs.bows.take i).map turn1 ∧ BowsT K H' bs' ∧ bs'.length ≤ i) ⟨same_upd hD, [], by rw [upd_same]; rfl, rfl, (fun b hb => absurd hb (List.not_mem_nil)), Nat.le_refl _⟩ (fun i H' _ p => p.1.seq (.inl (.inl hl))) (fun i x H' hx p => ?_) fun H' p => ?_
    · obtain ⟨sm, bs', e1, e2, e3, e4⟩ := p
      obtain ⟨b, hb0, rfl⟩ : ∃ b, bs[i]? = some b ∧ V.ref b.1 = x := by rw [List.getElem?_map] at hx; exact Option.map_eq_some_iff.mp hx
      have h2 := hB b (List.mem_of_getElem? hb0)
      have hil := (List.getElem?_eq_some_iff.mp hb0).1
      refine ⟨rfl, _, rfl, b.1, b.2, rfl, same_tup sm h2.1, fun t ht => ?_⟩
      have nDt : D ≠ t := ne_of_none e1 ht
      have sm2 : Same H' (upd H' t (.tup [.int (-b.2.2), .int (-b.2.1)])) := same_upd ht
      refine ⟨_, sm2 _ _ e1, Nat.lt_of_le_of_lt (m := 1000) (by rw [List.length_map]; omega) (by decide), fun b o hb => ?_, bs' ++ [(t, turn1 b.2)], by rw [upd_same]; unfold Bs.vs; rw [List.map_append]; rfl, ?_, fun b2 hb2 => ?_, by rw [List.length_append]; simp; omega⟩
      · rw [upd_ne (ne_of_none hb hD)]
        exact sm2 _ _ (sm _ _ hb)
      · unfold Bs.bows at e2 ⊢
        rw [List.map_append, e2, List.take_add_one, List.map_append, List.getElem?_map, hb0]
        rfl
      · have keep : ∀ c2 xs, SqT K H' c2 xs → SqT K (upd (upd H' t (.tup [.int (-b.2.2), .int (-b.2.1)])) D (.lst (bs'.vs ++ [V.ref t]))) c2 xs := fun c2 xs h => by
          rcases same_tup sm2 h with (h | ⟨o, h⟩) | h
          · exact .inl (.inl (by rw [upd_ne (ne_of h (sm2 _ _ e1) (by intro z; cases z))]; exact h))
          · exact .inl (.inr ⟨o, by rw [upd_ne (ne_of h (sm2 _ _ e1) (by intro z; cases z))]; exact h⟩)
          · exact .inr h
        rcases List.mem_append.mp hb2 with h | h
        · exact ⟨keep _ _ (e3 b2 h).1, (e3 b2 h).2⟩
        · have : b2 = (t, turn1 b.2) := by simpa using h
          subst this
          exact ⟨.inl (.inl (by rw [upd_ne nDt.symm, upd_same]; rfl)), turn1_good h2.2⟩
    · obtain ⟨sm, bs', e1, e2, e3, e4⟩ := p
      rw [List.length_map] at e4
      refine mkRow (bs := bs') ⟨.inl (.inl (.inl e1)), e3, by omega⟩ fun x H2 hx s4 _ => q x H2 bs' hx ?_ (sm.trans s4)
      rw [e2, List.take_of_length_le (by simp)]
def spWithout (K : PySem.W.Frag) : Sp := fun vs H Q _ => ∃ (p : Addr) (bs : Bs) (i : Nat), vs = [.ref p, .int i] ∧ RowAt K H p bs ∧ i < bs.length ∧ bs.length ≤ 1000 ∧ ∀ x H', RowAt K H' x (bs.eraseIdx i) → Same H H' → Q (.ref x) H'
theorem sc_Row_without : FnScope ["self", "index"] ["self", "index"] (defScope s_Row_without) := ⟨rfl, rfl, rfl, by decide +kernel, rfl, by decide +kernel, by decide +kernel⟩
theorem ok_Row_without (c : Cy w K mg base) : Dm PG w K mg base "Row" "without" 7 ["self", "index"] (spWithout K) := by
  obtain ⟨fd, F⟩ := c.fd_Row_without
  have D_Row___init__ := ok_Row_init c
  have D_Row_need := ok_Row_need c
  refine ⟨walkD F sc_Row_without (fun vs H Q E h => ?_) (fun cdv A outer s H vs Q E hr h => ?_) fun _ _ _ _ _ _ us hl => match us, hl with | [_, _], _ => rfl, c.t_Row_without, c.c_Row⟩
  · obtain ⟨a, b, i, rfl, _⟩ := h
    rfl
  · obtain ⟨p, bs, i, rfl, hR, hi, hlen, q⟩ := h
    refine ⟨_, (pss_cons (ps_expr (Dm.call (K0 := K) (by rfl) D_Row_need (hr.mono (by decide)) (pv 0) (pa_cons (pv 1) pa_nil)))
      (pss_one (ps_ret (Di.make (K0 := K) (by rfl) D_Row___init__ (hr.mono (by decide)) rfl (pa_cons (pe_op op_cat (pe_slice (sl_list_k (K0 := K) (by rfl)) (pe_fld_k (K0 := K) (by rfl) (pv 0)) po_none (po_some (pv 1))) (pe_slice (sl_list_k (K0 := K) (by rfl)) (pe_fld_k (K0 := K) (by rfl) (pv 0)) (po_some (pe_op op_add (pv 1) pe_int)) po_none)) pa_nil))))), ?_⟩
    obtain ⟨⟨dx, l, hp, hl⟩, hB⟩ := id hR
    refine ⟨_, rfl, p, dx, _, rfl, hp, rfl, _, rfl, p, bs, i, rfl, hR, hi, ?_⟩
    refine ⟨_, rfl, p, _, dx, _, _, rfl, hp, c.c_Row, c.n_its_bows, rfl, ?_⟩
    refine ⟨_, rfl, _, rfl, l, _, rfl, .inl (.inl hl), fun m hm => ?_⟩
    have s1 : Same H (upd H m (.lst (cutV bs.vs none (some (i : Int))))) := same_upd hm
    refine ⟨_, rfl, p, _, dx, _, _, rfl, s1 _ _ hp, c.c_Row, c.n_its_bows, rfl, ?_⟩
    refine ⟨_, rfl, _, _, rfl, rfl, _, rfl, ?_⟩
    refine ⟨l, _, rfl, .inl (.inl (s1 _ _ hl)), fun n hn => ?_⟩
    have s2 : Same H (upd (upd H m (.lst (cutV bs.vs none (some (i : Int))))) n (.lst (cutV bs.vs (some ((i : Int) + 1)) none))) := s1.trans (same_upd hn)
    have hmn : m ≠ n := fun e => by rw [← e, upd_same] at hn; cases hn
    have lc1 := cutV_length bs.vs none (some (i : Int))
    have lc2 := cutV_length bs.vs (some ((i : Int) + 1)) none
    have lv : bs.vs.length = bs.length := List.length_map _
    refine ⟨m, n, _, _, rfl, rfl, by rw [upd_ne hmn, upd_same], upd_same, Nat.le_trans (m := 2000) (by omega) (by decide), fun r hr' => ?_⟩
    have s3 := s2.trans (same_upd (o := .lst (cutV bs.vs none (some (i : Int)) ++ cutV bs.vs (some ((i : Int) + 1)) none)) hr')
    have ev : cutV bs.vs none (some (i : Int)) ++ cutV bs.vs (some ((i : Int) + 1)) none = Bs.vs (bs.eraseIdx i) := by
      unfold cutV
      rw [HT.sIx_none, HT.sIx_none, HT.sIx_nat, show ((i : Int) + 1) = ((i + 1 : Nat) : Int) by omega, HT.sIx_nat, Nat.min_eq_left (by omega), Nat.min_eq_left (by omega)]
      rw [List.drop_zero, Nat.sub_zero, List.take_of_length_le (i := bs.vs.length - (i + 1)) (by rw [List.length_drop]; exact Nat.le_refl _), Bs.vs, Bs.vs, List.eraseIdx_eq_take_drop_succ, List.map_append, List.map_take, List.map_drop]
    refine mkRow (bs := bs.eraseIdx i) ⟨.inl (.inl (.inl (by rw [upd_same, ev]))), fun b hb => ?_, ?_⟩ fun x H2 hx s4 _ => q x H2 hx (s3.trans s4)
    · have := (hB b (List.mem_of_mem_eraseIdx hb))
      exact ⟨same_tup s3 this.1, this.2⟩
    · rw [List.length_eraseIdx]; split <;> omega
end
end Bw
end
section
set_option autoImplicit false
set_option linter.all false
namespace Bw
/-! ### counting below n -/
def cnt (S : Nat → Bool) : Nat → Nat
  | 0 => 0
  | n + 1 => cnt S n + (if S n = true then 1 else 0)
theorem cnt_le (S : Nat → Bool) : ∀ n, cnt S n ≤ n
  | 0 => Nat.le_refl 0
  | n + 1 => by
    have h := cnt_le S n
    show cnt S n + _ ≤ n + 1
    split <;> omega
theorem cnt_congr {S T : Nat → Bool} : ∀ {n : Nat}, (∀ i, i < n → S i = T i) → cnt S n = cnt T n
  | 0, _ => rfl
  | n + 1, h => by
    show cnt S n + _ = cnt T n + _
    rw [cnt_congr (n := n) fun i hi => h i (by omega), h n (by omega)]
theorem cnt_mono {S T : Nat → Bool} : ∀ {n : Nat}, (∀ i, i < n → S i = true → T i = true) → cnt S n ≤ cnt T n
  | 0, _ => Nat.le_refl 0
  | n + 1, h => by
    have h1 := cnt_mono (n := n) fun i hi => h i (by omega)
    show cnt S n + _ ≤ cnt T n + _
    have h2 := h n (by omega)
    split <;> split <;> first | omega | simp_all
theorem cnt_all {S : Nat → Bool} : ∀ {n : Nat}, (∀ i, i < n → S i = true) → cnt S n = n
  | 0, _ => rfl
  | n + 1, h => by
    show cnt S n + _ = n + 1
    rw [cnt_all (n := n) fun i hi => h i (by omega), if_pos (h n (by omega))]
theorem all_of_cnt {S : Nat → Bool} : ∀ {n : Nat}, cnt S n = n → ∀ i, i < n → S i = true
  | 0, _, i, hi => by omega
  | n + 1, h, i, hi => by
    have h0 : cnt S n + (if S n = true then 1 else 0) = n + 1 := h
    have h1 := cnt_le S n
    by_cases hn : S n = true
    · rw [if_pos hn] at h0
      by_cases e : i = n
      · rw [e]; exact hn
      · exact all_of_cnt (n := n) (by omega) i (by omega)
    · rw [if_neg hn] at h0; omega
theorem cnt_none {S : Nat → Bool} : ∀ {n : Nat}, (∀ i, i < n → S i = false) → cnt S n = 0
  | 0, _ => rfl
  | n + 1, h => by
    show cnt S n + _ = 0
    rw [cnt_none (n := n) fun i hi => h i (by omega), h n (by omega)]; rfl
theorem none_of_cnt {S : Nat → Bool} : ∀ {n : Nat}, cnt S n = 0 → ∀ i, i < n → S i = false
  | 0, _, i, hi => by omega
  | n + 1, h, i, hi => by
    have h0 : cnt S n + (if S n = true then 1 else 0) = 0 := h
    by_cases hn : S n = true
    · rw [if_pos hn] at h0; omega
    · rw [if_neg hn] at h0
      by_cases e : i = n
      · rw [e]; simpa using hn
      · exact none_of_cnt (n := n) (by omega) i (by omega)
/-- one more -/
theorem cnt_add {S : Nat → Bool} {a : Nat} (ha : S a = false) : ∀ {n : Nat}, cnt (fun i => S i || decide (i = a)) n = cnt S n + (if a < n then 1 else 0)
  | 0 => by simp [cnt]
  | n + 1 => by
    show cnt _ n + _ = cnt S n + _ + _
    rw [cnt_add ha (n := n)]
    by_cases e : n = a
    · subst e
      simp [ha]
    · by_cases h1 : a < n
      · have h2 : a < n + 1 := by omega
        simp [e, h1, h2]; omega
      · have h2 : ¬ a < n + 1 := by omega
        simp [e, h1, h2]
theorem cnt_ext (S : Nat → Bool) {n m : Nat} (h : ∀ i, n ≤ i → S i = false) (hm : n ≤ m) : cnt S m = cnt S n := by
  induction m with
  | zero => have : n = 0 := by omega
            rw [this]
  | succ m ih =>
    by_cases e : n = m + 1
    · rw [e]
    · show cnt S m + _ = _
      rw [ih (by omega), h m (by omega)]; rfl
theorem cnt_filter (S : Nat → Bool) : ∀ n, ((List.range n).filter S).length = cnt S n
  | 0 => rfl
  | n + 1 => by
    rw [List.range_succ, List.filter_append, List.length_append, cnt_filter S n]
    show _ = cnt S n + _
    by_cases h : S n = true <;> simp [h]
/-! ### a row without one bow -/
def skip (a i : Nat) : Nat := if i < a then i else i + 1
theorem cnt_skip (S : Nat → Bool) (a : Nat) : ∀ n, a ≤ n → cnt (fun i => S (skip a i)) n + (if S a = true then 1 else 0) = cnt S (n + 1)
  | 0, h => by
    have e : a = 0 := by omega
    subst e
    rfl
  | n + 1, h => by
    show cnt (fun i => S (skip a i)) n + (if S (skip a n) = true then 1 else 0) + _ = cnt S (n + 1) + (if S (n + 1) = true then 1 else 0)
    by_cases e : a = n + 1
    · subst e
      have h1 : skip (n + 1) n = n := by simp [skip]
      have h2 : ∀ m, m ≤ n + 1 → cnt (fun i => S (skip (n + 1) i)) m = cnt S m := fun m hm => cnt_congr fun i hi => by
        have : skip (n + 1) i = i := by simp [skip]; omega
        rw [this]
      rw [h1, h2 n (by omega)]
      rfl
    · have ih := cnt_skip S a n (by omega)
      have h1 : skip a n = n + 1 := by
        unfold skip
        rw [if_neg (by omega)]
      rw [h1]
      omega
/-! ### layers as ascending lists -/
/-- all layers, as the program builds them -/
def allL (G : Nat → Nat → Bool) : Nat → List (List Nat)
  | 0 => [[]]
  | n + 1 => allL G n ++ ((allL G n).filter fun s => s.all fun one => G n one).map fun s => s ++ [n]
def Lay (G : Nat → Nat → Bool) (n : Nat) (s : List Nat) : Prop := s.Pairwise (fun a b => a < b ∧ G b a = true) ∧ ∀ x ∈ s, x < n
theorem mem_allL {G : Nat → Nat → Bool} : ∀ {n : Nat} {s : List Nat}, s ∈ allL G n ↔ Lay G n s
  | 0, s => by
    unfold allL Lay
    constructor
    · intro h
      have e : s = [] := by simpa using h
      subst e
      exact ⟨List.Pairwise.nil, fun x hx => by cases hx⟩
    · rintro ⟨_, h⟩
      cases s with
      | nil => simp
      | cons a t => exact absurd (h a (by simp)) (by omega)
  | n + 1, s => by
    show s ∈ allL G n ++ _ ↔ _
    rw [List.mem_append, mem_allL (n := n)]
    constructor
    · rintro (⟨h1, h2⟩ | h)
      · exact ⟨h1, fun x hx => by have := h2 x hx; omega⟩
      · obtain ⟨t, ht, rfl⟩ := List.mem_map.mp h
        obtain ⟨ht1, ht2⟩ := List.mem_filter.mp ht
        obtain ⟨h1, h2⟩ := mem_allL.mp ht1
        have ha := List.all_eq_true.mp ht2
        refine ⟨List.pairwise_append.mpr ⟨h1, by simp, fun a ha1 b hb => ?_⟩, fun x hx => ?_⟩
        · have e : b = n := by simpa using hb
          subst e
          exact ⟨h2 a ha1, ha a ha1⟩
        · rcases List.mem_append.mp hx with hx | hx
          · have := h2 x hx; omega
          · have e : x = n := by simpa using hx
            omega
    · rintro ⟨h1, h2⟩
      by_cases hn : n ∈ s
      · right
        obtain ⟨t, u, e⟩ := List.append_of_mem hn
        have hu : u = [] := by
          cases u with
          | nil => rfl
          | cons a v =>
            exfalso
            rw [e] at h1 h2
            have q := (List.pairwise_append.mp h1).2.1
            have q2 := (List.pairwise_cons.mp q).1 a (by simp)
            have q3 := h2 a (by simp)
            omega
        subst hu
        subst e
        obtain ⟨p1, p2, p3⟩ := List.pairwise_append.mp h1
        refine List.mem_map.mpr ⟨t, List.mem_filter.mpr ⟨mem_allL.mpr ⟨p1, fun x hx => (p3 x hx n (by simp)).1⟩, List.all_eq_true.mpr fun x hx => (p3 x hx n (by simp)).2⟩, rfl⟩
      · left
        refine ⟨h1, fun x hx => ?_⟩
        have q := h2 x hx
        have : x ≠ n := fun e => hn (e ▸ hx)
        omega
theorem nil_mem_allL (G : Nat → Nat → Bool) (n : Nat) : [] ∈ allL G n := mem_allL.mpr ⟨List.Pairwise.nil, fun x hx => by cases hx⟩
theorem allL_ne (G : Nat → Nat → Bool) (n : Nat) : allL G n ≠ [] := fun e => by
  have h := nil_mem_allL G n
  rw [e] at h
  cases h
theorem allL_len (G : Nat → Nat → Bool) : ∀ n, (allL G n).length ≤ 2 ^ n
  | 0 => by simp [allL]
  | n + 1 => by
    show (allL G n ++ _).length ≤ _
    have h := allL_len G n
    have h2 : (((allL G n).filter fun s => s.all fun one => G n one).map fun s => s ++ [n]).length ≤ (allL G n).length := by
      rw [List.length_map]
      exact List.length_filter_le _ _
    rw [List.length_append, Nat.pow_succ]
    omega
/-- the layer of a set of places, ascending -/
def listOf (S : Nat → Bool) (n : Nat) : List Nat := (List.range n).filter S
theorem listOf_mem {S : Nat → Bool} {n x : Nat} : x ∈ listOf S n ↔ x < n ∧ S x = true := by
  unfold listOf
  rw [List.mem_filter, List.mem_range]
theorem listOf_sorted (S : Nat → Bool) (n : Nat) : (listOf S n).Pairwise (· < ·) := List.Pairwise.filter _ List.pairwise_lt_range
theorem listOf_lay {G : Nat → Nat → Bool} {S : Nat → Bool} {n : Nat} (h : ∀ a b, a < b → b < n → S a = true → S b = true → G b a = true) : Lay G n (listOf S n) := by
  refine ⟨?_, fun x hx => (listOf_mem.mp hx).1⟩
  have p := listOf_sorted S n
  refine List.Pairwise.imp_of_mem ?_ p
  intro a b ha hb hab
  have h1 := listOf_mem.mp ha
  have h2 := listOf_mem.mp hb
  exact ⟨hab, h a b hab h2.1 h1.2 h2.2⟩
theorem lay_adj {G : Nat → Nat → Bool} (sym : ∀ i j, G i j = G j i) {n : Nat} {s : List Nat} (h : Lay G n s) {a b : Nat} (ha : a ∈ s) (hb : b ∈ s) (ne : a ≠ b) : G a b = true := by
  obtain ⟨p, hlt⟩ := h
  clear hlt
  induction p with
  | nil => cases ha
  | cons q r ih =>
    rename_i x l
    rcases List.mem_cons.mp ha with e1 | ha
    · rcases List.mem_cons.mp hb with e2 | hb
      · exact absurd (e1.trans e2.symm) ne
      · rw [e1, sym]; exact (q b hb).2
    · rcases List.mem_cons.mp hb with e2 | hb
      · rw [e2]; exact (q a ha).2
      · exact ih ha hb
theorem lay_nodup {G : Nat → Nat → Bool} {n : Nat} {s : List Nat} (h : Lay G n s) : s.Nodup := h.1.imp fun q => by omega
/-- the number of bows of a layer, as a count -/
theorem lay_cnt {G : Nat → Nat → Bool} {n : Nat} {s : List Nat} (h : Lay G n s) : cnt (fun i => s.contains i) n = s.length := by
  rw [← cnt_filter]
  have e : (List.range n).filter (fun i => s.contains i) = s := by
    have p1 : ((List.range n).filter (fun i => s.contains i)).Pairwise (· < ·) := List.Pairwise.filter _ List.pairwise_lt_range
    have p2 : s.Pairwise (· < ·) := h.1.imp fun q => q.1
    have hm : ∀ x, x ∈ (List.range n).filter (fun i => s.contains i) ↔ x ∈ s := fun x => by
      rw [List.mem_filter, List.mem_range]
      constructor
      · rintro ⟨_, q⟩; simpa using q
      · intro q; exact ⟨h.2 x q, by simpa using q⟩
    have pe : ((List.range n).filter (fun i => s.contains i)).Perm s := (List.perm_ext_iff_of_nodup (p1.imp fun q => by omega) (p2.imp fun q => by omega)).mpr hm
    exact List.Perm.eq_of_pairwise (fun a b _ _ h1 h2 => by omega) p1 p2 pe
  rw [e]
/-! ### masks -/
def maskOf (s : List Nat) : Nat := (s.map fun i => 2 ^ i).sum
theorem maskOf_snoc (s : List Nat) (n : Nat) : maskOf (s ++ [n]) = maskOf s + 2 ^ n := by
  unfold maskOf
  rw [List.map_append, List.sum_append]
  simp
theorem add_pow_bit {x n : Nat} (h : x < 2 ^ n) (i : Nat) : (x + 2 ^ n).testBit i = (x.testBit i || decide (i = n)) := by
  have e : x + 2 ^ n = 2 ^ n * 1 ||| x := by
    rw [← Nat.two_pow_add_eq_or_of_lt h 1]; omega
  rw [e, Nat.testBit_or, Nat.mul_one, Nat.testBit_two_pow, Bool.or_comm]
  congr 1
  by_cases q : n = i
  · rw [q]
  · rw [decide_eq_false q, decide_eq_false (fun z => q z.symm)]
theorem maskOf_sorted : ∀ (n : Nat) (s : List Nat), s.Pairwise (· < ·) → (∀ x ∈ s, x < n) → maskOf s < 2 ^ n ∧ ∀ i, (maskOf s).testBit i = s.contains i
  | 0, s, _, h => by
    cases s with
    | nil => exact ⟨by simp [maskOf], fun i => by simp [maskOf]⟩
    | cons a t => exact absurd (h a (by simp)) (by omega)
  | n + 1, s, p, h => by
    by_cases hn : n ∈ s
    · obtain ⟨t, u, e⟩ := List.append_of_mem hn
      have hu : u = [] := by
        cases u with
        | nil => rfl
        | cons a v =>
          exfalso
          rw [e] at p h
          have q := (List.pairwise_append.mp p).2.1
          have q2 := (List.pairwise_cons.mp q).1 a (by simp)
          have q3 := h a (by simp)
          omega
      subst hu
      subst e
      obtain ⟨p1, p2, p3⟩ := List.pairwise_append.mp p
      obtain ⟨h1, h2⟩ := maskOf_sorted n t p1 fun x hx => p3 x hx n (by simp)
      rw [maskOf_snoc]
      refine ⟨by rw [Nat.pow_succ]; omega, fun i => ?_⟩
      rw [add_pow_bit h1, h2]
      simp
    · obtain ⟨h1, h2⟩ := maskOf_sorted n s p fun x hx => by
        have q := h x hx
        have : x ≠ n := fun e => hn (e ▸ hx)
        omega
      exact ⟨by rw [Nat.pow_succ]; omega, h2⟩
/-- a mask without a part of it -/
theorem sub_bits : ∀ (m o : Nat), o &&& m = o → o ≤ m ∧ ∀ i, (m - o).testBit i = (m.testBit i && !o.testBit i) := by
  intro m
  induction m using Nat.strongRecOn with
  | _ m ih =>
    intro o h
    by_cases m0 : m = 0
    · subst m0
      have e : o = 0 := by rw [← h]; simp
      subst e
      exact ⟨Nat.le_refl 0, fun i => by simp⟩
    · have hd : (o / 2) &&& (m / 2) = o / 2 := by
        apply Nat.eq_of_testBit_eq
        intro i
        have q := congrArg (fun z => z.testBit (i + 1)) h
        simp only [Nat.testBit_succ] at q
        rw [Nat.testBit_and, ← q, ← Nat.testBit_succ, ← Nat.testBit_succ, Nat.testBit_and]
        cases o.testBit (Nat.succ i) <;> cases m.testBit (Nat.succ i) <;> rfl
      have hb : (o.testBit 0 && m.testBit 0) = o.testBit 0 := by
        have q := congrArg (fun z => z.testBit 0) h
        simpa only [Nat.testBit_and] using q
      obtain ⟨i1, i2⟩ := ih (m / 2) (by omega) (o / 2) hd
      have b0 : o % 2 = 1 → m % 2 = 1 := by
        intro q
        rw [Nat.testBit_zero, Nat.testBit_zero] at hb
        simp only [q, decide_true, Bool.true_and, decide_eq_true_eq] at hb
        exact hb
      have hle : o ≤ m := by omega
      refine ⟨hle, fun i => ?_⟩
      have ed : (m - o) / 2 = m / 2 - o / 2 := by omega
      have em : (m - o) % 2 = m % 2 - o % 2 := by omega
      cases i with
      | zero =>
        rw [Nat.testBit_zero, Nat.testBit_zero, Nat.testBit_zero, em]
        have h1 : m % 2 = 0 ∨ m % 2 = 1 := by omega
        have h2 : o % 2 = 0 ∨ o % 2 = 1 := by omega
        rcases h1 with h1 | h1 <;> rcases h2 with h2 | h2 <;> simp [h1, h2]
        all_goals (exact absurd (b0 h2) (by omega))
      | succ i =>
        rw [Nat.testBit_succ, Nat.testBit_succ, Nat.testBit_succ, ed]
        exact i2 i
theorem bit_lt {m n i : Nat} (h : m < 2 ^ n) (b : m.testBit i = true) : i < n := by
  by_cases q : i < n
  · exact q
  · have : m < 2 ^ i := Nat.lt_of_lt_of_le h (Nat.pow_le_pow_right (by omega) (by omega))
    rw [Nat.testBit_lt_two_pow this] at b
    cases b
theorem mask_ext {m o n : Nat} (hm : m < 2 ^ n) (ho : o < 2 ^ n) (h : ∀ i, i < n → m.testBit i = o.testBit i) : m = o := by
  apply Nat.eq_of_testBit_eq
  intro i
  by_cases q : i < n
  · exact h i q
  · rw [Nat.testBit_lt_two_pow (Nat.lt_of_lt_of_le hm (Nat.pow_le_pow_right (by omega) (by omega))), Nat.testBit_lt_two_pow (Nat.lt_of_lt_of_le ho (Nat.pow_le_pow_right (by omega) (by omega)))]
/-- the mask of a set -/
theorem mask_of_set (S : Nat → Bool) (n : Nat) : maskOf (listOf S n) < 2 ^ n ∧ ∀ i, (maskOf (listOf S n)).testBit i = (decide (i < n) && S i) := by
  obtain ⟨h1, h2⟩ := maskOf_sorted n (listOf S n) (listOf_sorted S n) fun x hx => (listOf_mem.mp hx).1
  refine ⟨h1, fun i => ?_⟩
  rw [h2]
  by_cases q : i ∈ listOf S n
  · have := listOf_mem.mp q
    simp [q, this.1, this.2]
  · have : ¬ (i < n ∧ S i = true) := fun z => q (listOf_mem.mpr z)
    by_cases z : i < n
    · have : S i = false := by simpa [z] using this
      simp [q, this]
    · simp [q, z]
/-! ### so many layers hold a set -/
def Cov (G : Nat → Nat → Bool) (n k : Nat) (S : Nat → Bool) : Prop :=
  ∃ f : Nat → Nat, (∀ i, i < n → S i = true → f i < k) ∧ ∀ i j, i < n → j < n → S i = true → S j = true → i ≠ j → f i = f j → G i j = true
theorem Cov.mono {G : Nat → Nat → Bool} {n k l : Nat} {S T : Nat → Bool} (h : Cov G n k S) (hk : k ≤ l) (hT : ∀ i, i < n → T i = true → S i = true) : Cov G n l T := by
  obtain ⟨f, h1, h2⟩ := h
  exact ⟨f, fun i hi t => by have := h1 i hi (hT i hi t); omega, fun i j hi hj ti tj ne e => h2 i j hi hj (hT i hi ti) (hT j hj tj) ne e⟩
theorem Cov.wider {G G' : Nat → Nat → Bool} {n k : Nat} {S : Nat → Bool} (h : Cov G n k S) (w : ∀ i j, i < n → j < n → G i j = true → G' i j = true) : Cov G' n k S := by
  obtain ⟨f, h1, h2⟩ := h
  exact ⟨f, h1, fun i j hi hj ti tj ne e => w i j hi hj (h2 i j hi hj ti tj ne e)⟩
theorem cov_zero {G : Nat → Nat → Bool} {n : Nat} {S : Nat → Bool} : Cov G n 0 S ↔ ∀ i, i < n → S i = false := by
  constructor
  · rintro ⟨f, h1, _⟩ i hi
    cases e : S i with
    | false => rfl
    | true => exact absurd (h1 i hi e) (by omega)
  · intro h
    refine ⟨fun _ => 0, fun i hi e => ?_, fun i j hi hj e => ?_⟩
    · rw [h i hi] at e; cases e
    · rw [h i hi] at e; cases e
/-- one bow more, one layer more -/
theorem Cov.one_more {G : Nat → Nat → Bool} {n k a : Nat} {S : Nat → Bool} (h : Cov G n k S) : Cov G n (k + 1) (fun i => S i || decide (i = a)) := by
  obtain ⟨f, h1, h2⟩ := h
  refine ⟨fun i => if i = a then k else f i, fun i hi e => ?_, fun i j hi hj ei ej ne e => ?_⟩
  · show (if i = a then k else f i) < k + 1
    by_cases q : i = a
    · rw [if_pos q]; omega
    · rw [if_neg q]
      have : S i = true := by simpa [q] using e
      have := h1 i hi this; omega
  · have e' : (if i = a then k else f i) = (if j = a then k else f j) := e
    by_cases q : i = a
    · by_cases r : j = a
      · exact absurd (q.trans r.symm) ne
      · have sj : S j = true := by simpa [r] using ej
        rw [if_pos q, if_neg r] at e'
        have := h1 j hj sj; omega
    · have si : S i = true := by simpa [q] using ei
      by_cases r : j = a
      · rw [if_neg q, if_pos r] at e'
        have := h1 i hi si; omega
      · have sj : S j = true := by simpa [r] using ej
        rw [if_neg q, if_neg r] at e'
        exact h2 i j hi hj si sj ne e'
/-- a layer and a set that k layers hold -/
theorem Cov.join {G : Nat → Nat → Bool} {n k : Nat} {S C : Nat → Bool} (hC : ∀ i j, i < n → j < n → C i = true → C j = true → i ≠ j → G i j = true) (h : Cov G n k (fun i => S i && !C i)) : Cov G n (k + 1) S := by
  obtain ⟨f, h1, h2⟩ := h
  have key : ∀ i, S i = true → C i = false → (S i && !C i) = true := fun i a b => by rw [a, b]; rfl
  refine ⟨fun i => if C i = true then k else f i, fun i hi e => ?_, fun i j hi hj ei ej ne e => ?_⟩
  · show (if C i = true then k else f i) < k + 1
    by_cases q : C i = true
    · rw [if_pos q]; omega
    · rw [if_neg q]
      have := h1 i hi (key i e (by simpa using q)); omega
  · have e' : (if C i = true then k else f i) = (if C j = true then k else f j) := e
    by_cases q : C i = true
    · by_cases r : C j = true
      · exact hC i j hi hj q r ne
      · rw [if_pos q, if_neg r] at e'
        have := h1 j hj (key j ej (by simpa using r)); omega
    · by_cases r : C j = true
      · rw [if_neg q, if_pos r] at e'
        have := h1 i hi (key i ei (by simpa using q)); omega
      · rw [if_neg q, if_neg r] at e'
        exact h2 i j hi hj (key i ei (by simpa using q)) (key j ej (by simpa using r)) ne e'
/-- the class of one bow is taken out -/
theorem Cov.take {G : Nat → Nat → Bool} {n k : Nat} {S : Nat → Bool} {a : Nat} (h : Cov G n k S) (ha : a < n) (sa : S a = true) :
    ∃ C : Nat → Bool, C a = true ∧ (∀ i, i < n → C i = true → S i = true) ∧ (∀ i j, i < n → j < n → C i = true → C j = true → i ≠ j → G i j = true) ∧ ∃ l, k = l + 1 ∧ Cov G n l (fun i => S i && !C i) := by
  obtain ⟨f, h1, h2⟩ := h
  have hk := h1 a ha sa
  refine ⟨fun i => S i && decide (f i = f a), by simp [sa], fun i hi e => (Bool.and_eq_true_iff.mp e).1, fun i j hi hj ei ej ne => ?_, k - 1, by omega, ?_⟩
  · obtain ⟨si, fi⟩ := Bool.and_eq_true_iff.mp ei
    obtain ⟨sj, fj⟩ := Bool.and_eq_true_iff.mp ej
    exact h2 i j hi hj si sj ne ((of_decide_eq_true fi).trans (of_decide_eq_true fj).symm)
  · have split : ∀ i, (S i && !(S i && decide (f i = f a))) = true → S i = true ∧ f i ≠ f a := fun i e => by
      obtain ⟨si, r⟩ := Bool.and_eq_true_iff.mp e
      refine ⟨si, fun z => ?_⟩
      rw [si, decide_eq_true z] at r
      cases r
    refine ⟨fun i => if f i = k - 1 then f a else f i, fun i hi e => ?_, fun i j hi hj ei ej ne e => ?_⟩
    · obtain ⟨si, nf⟩ := split i e
      have := h1 i hi si
      show (if f i = k - 1 then f a else f i) < k - 1
      split <;> omega
    · obtain ⟨si, nfi⟩ := split i ei
      obtain ⟨sj, nfj⟩ := split j ej
      have e' : (if f i = k - 1 then f a else f i) = (if f j = k - 1 then f a else f j) := e
      refine h2 i j hi hj si sj ne ?_
      split at e' <;> split at e' <;> first | omega | (exact absurd e'.symm nfj) | (exact absurd e' nfi)
/-! ### the table -/
/-- v is the least number of layers that hold the set S -/
def IsChi (G : Nat → Nat → Bool) (n : Nat) (S : Nat → Bool) (v : Nat) : Prop := ∀ k, v ≤ k ↔ Cov G n k S
theorem IsChi.unique {G : Nat → Nat → Bool} {n : Nat} {S : Nat → Bool} {v w : Nat} (h : IsChi G n S v) (h' : IsChi G n S w) : v = w := by
  have a := (h w).mpr ((h' w).mp (Nat.le_refl w))
  have b := (h' v).mpr ((h v).mp (Nat.le_refl v))
  omega
theorem isChi_zero (G : Nat → Nat → Bool) (n : Nat) : IsChi G n (fun i => (0 : Nat).testBit i) 0 := fun k => by
  refine ⟨fun _ => ?_, fun _ => Nat.zero_le _⟩
  exact (cov_zero.mpr fun i _ => by simp).mono (Nat.zero_le k) fun _ _ h => h
/-- the masks of the layers whose first bow is a -/
def masksAt (G : Nat → Nat → Bool) (n a : Nat) : List Nat := ((allL G n).filter fun s => s.head? == some a).map maskOf
theorem mem_masksAt {G : Nat → Nat → Bool} {n a o : Nat} : o ∈ masksAt G n a ↔ ∃ s, Lay G n s ∧ s.head? = some a ∧ maskOf s = o := by
  unfold masksAt
  rw [List.mem_map]
  constructor
  · rintro ⟨s, hs, e⟩
    obtain ⟨h1, h2⟩ := List.mem_filter.mp hs
    exact ⟨s, mem_allL.mp h1, by simpa using h2, e⟩
  · rintro ⟨s, h1, h2, e⟩
    exact ⟨s, List.mem_filter.mpr ⟨mem_allL.mpr h1, by simpa using h2⟩, e⟩
theorem lay_mask {G : Nat → Nat → Bool} {n : Nat} {s : List Nat} (h : Lay G n s) : maskOf s < 2 ^ n ∧ ∀ i, (maskOf s).testBit i = s.contains i := maskOf_sorted n s (h.1.imp fun q => q.1) h.2
/-- the table's candidates at the mask m -/
def cands (G : Nat → Nat → Bool) (n a m : Nat) : List Nat := (masksAt G n a).filter fun o => decide (o &&& m = o)
/-- a step of the table: v tells the least numbers of all lesser masks, a is the least bow of m -/
theorem cands_sound {G : Nat → Nat → Bool} (sym : ∀ i j, G i j = G j i) {n m a o : Nat} (ha : m.testBit a = true) (hl : ∀ i, i < a → m.testBit i = false) (hm : m < 2 ^ n) (ho : o ∈ cands G n a m) :
    0 < o ∧ o ≤ m ∧ ∀ w k, IsChi G n (fun i => (m - o).testBit i) w → w + 1 ≤ k → Cov G n k (fun i => m.testBit i) := by
  obtain ⟨h1, h2⟩ := List.mem_filter.mp ho
  have h2 := of_decide_eq_true h2
  obtain ⟨s, hs, hd, e⟩ := mem_masksAt.mp h1
  obtain ⟨b1, b2⟩ := lay_mask hs
  obtain ⟨c1, c2⟩ := sub_bits m o h2
  rw [e] at b1 b2
  have am : a ∈ s := List.mem_of_mem_head? (by rw [hd]; rfl)
  have oa : o.testBit a = true := by rw [b2]; simpa using am
  refine ⟨?_, c1, fun w k hw hk => ?_⟩
  · refine Nat.pos_of_ne_zero fun z => ?_
    rw [z] at oa; simp at oa
  · have q := (hw (k - 1)).mp (by omega)
    have e1 : (fun i => (m - o).testBit i) = fun i => m.testBit i && !o.testBit i := funext c2
    rw [e1] at q
    have r := Cov.join (S := fun i => m.testBit i) (C := fun i => o.testBit i) (fun i j hi hj ci cj ne => by
      have ci : o.testBit i = true := ci
      have cj : o.testBit j = true := cj
      rw [b2] at ci cj
      exact lay_adj sym hs (by simpa using ci) (by simpa using cj) ne) q
    exact r.mono (by omega) fun _ _ h => h
theorem cands_complete {G : Nat → Nat → Bool} {n m a k : Nat} (ha : m.testBit a = true) (hl : ∀ i, i < a → m.testBit i = false) (hm : m < 2 ^ n) (h : Cov G n k (fun i => m.testBit i)) :
    ∃ o, o ∈ cands G n a m ∧ ∃ l, k = l + 1 ∧ Cov G n l (fun i => (m - o).testBit i) := by
  obtain ⟨C, hCa, hCS, hCG, l, hl2, hcov⟩ := h.take (bit_lt hm ha) ha
  obtain ⟨b1, b2⟩ := mask_of_set C n
  have hs : Lay G n (listOf C n) := listOf_lay fun x y hxy hy cx cy => hCG y x hy (by omega) cy cx (by omega)
  have hand : maskOf (listOf C n) &&& m = maskOf (listOf C n) := by
    apply Nat.eq_of_testBit_eq
    intro i
    rw [Nat.testBit_and, b2]
    cases q : decide (i < n) && C i with
    | false => rfl
    | true =>
      obtain ⟨q1, q2⟩ := Bool.and_eq_true_iff.mp q
      rw [hCS i (of_decide_eq_true q1) q2]; rfl
  have hhead : (listOf C n).head? = some a := by
    have p := listOf_sorted C n
    have am : a ∈ listOf C n := listOf_mem.mpr ⟨bit_lt hm ha, hCa⟩
    cases e : listOf C n with
    | nil => rw [e] at am; cases am
    | cons x t =>
      rw [e] at p am
      rcases List.mem_cons.mp am with q | q
      · rw [q]; rfl
      · exfalso
        have lt := (List.pairwise_cons.mp p).1 a q
        have xm : x ∈ listOf C n := by rw [e]; simp
        obtain ⟨x1, x2⟩ := listOf_mem.mp xm
        have := hCS x x1 x2
        rw [hl x lt] at this
        cases this
  refine ⟨maskOf (listOf C n), List.mem_filter.mpr ⟨mem_masksAt.mpr ⟨_, hs, hhead, rfl⟩, decide_eq_true hand⟩, l, hl2, ?_⟩
  obtain ⟨_, c2⟩ := sub_bits m _ hand
  refine hcov.mono (Nat.le_refl l) fun i hi e => ?_
  have e : (m - maskOf (listOf C n)).testBit i = true := e
  rw [c2, b2] at e
  show (m.testBit i && !C i) = true
  simpa [hi] using e
/-- all bows in layers of their own -/
theorem cov_self {G : Nat → Nat → Bool} (n : Nat) (S : Nat → Bool) : Cov G n n S := ⟨fun i => i, fun i hi _ => hi, fun i j _ _ _ _ ne e => absurd e ne⟩
theorem cands_ne {G : Nat → Nat → Bool} {n m a : Nat} (ha : m.testBit a = true) (hl : ∀ i, i < a → m.testBit i = false) (hm : m < 2 ^ n) : cands G n a m ≠ [] := by
  obtain ⟨o, h, _⟩ := cands_complete (G := G) ha hl hm (cov_self n _)
  intro e
  rw [e] at h
  cases h
theorem step_chi {G : Nat → Nat → Bool} (sym : ∀ i j, G i j = G j i) {n m a : Nat} (ha : m.testBit a = true) (hl : ∀ i, i < a → m.testBit i = false) (hm : m < 2 ^ n) {v : Nat → Nat}
    (hv : ∀ o, o < m → IsChi G n (fun i => o.testBit i) (v o)) {r : Nat} (h1 : ∃ o ∈ cands G n a m, r = v (m - o) + 1) (h2 : ∀ o ∈ cands G n a m, r ≤ v (m - o) + 1) : IsChi G n (fun i => m.testBit i) r := fun k => by
  constructor
  · intro hk
    obtain ⟨o, ho, e⟩ := h1
    obtain ⟨p, le, q⟩ := cands_sound sym ha hl hm ho
    exact q (v (m - o)) k (hv (m - o) (by omega)) (by omega)
  · intro h
    obtain ⟨o, ho, l, e, q⟩ := cands_complete ha hl hm h
    obtain ⟨p, le, _⟩ := cands_sound sym ha hl hm ho
    have := h2 o ho
    have := (hv (m - o) (by omega) l).mpr q
    omega
/-- the first set place of a mask, as the program finds it -/
theorem first_bit {m n N : Nat} (hm : m < 2 ^ n) (hN : n ≤ N) (h0 : 0 < m) : ∃ a t, (List.range N).filter (fun i => m.testBit i) = a :: t ∧ m.testBit a = true ∧ ∀ i, i < a → m.testBit i = false := by
  have p : ((List.range N).filter (fun i => m.testBit i)).Pairwise (· < ·) := List.Pairwise.filter _ List.pairwise_lt_range
  cases e : (List.range N).filter (fun i => m.testBit i) with
  | nil =>
    exfalso
    have z : m = 0 := mask_ext hm (by exact Nat.two_pow_pos n) fun i hi => by
      cases q : m.testBit i with
      | false => simp
      | true =>
        have : i ∈ (List.range N).filter (fun i => m.testBit i) := List.mem_filter.mpr ⟨List.mem_range.mpr (by omega), q⟩
        rw [e] at this
        cases this
    omega
  | cons a t =>
    rw [e] at p
    have am : a ∈ (List.range N).filter (fun i => m.testBit i) := by rw [e]; simp
    refine ⟨a, t, rfl, (List.mem_filter.mp am).2, fun i hi => ?_⟩
    cases q : m.testBit i with
    | false => rfl
    | true =>
      exfalso
      have hN2 : a < N := List.mem_range.mp (List.mem_filter.mp am).1
      have : i ∈ (List.range N).filter (fun i => m.testBit i) := List.mem_filter.mpr ⟨List.mem_range.mpr (by omega), q⟩
      rw [e] at this
      rcases List.mem_cons.mp this with r | r
      · omega
      · have := (List.pairwise_cons.mp p).1 i r
        omega
/-! ### most bows in so many layers -/
def IsMost (G : Nat → Nat → Bool) (n k c : Nat) : Prop := (∃ S, Cov G n k S ∧ cnt S n = c) ∧ ∀ S, Cov G n k S → cnt S n ≤ c
theorem IsMost.le {G : Nat → Nat → Bool} {n k c : Nat} (h : IsMost G n k c) : c ≤ n := by
  obtain ⟨⟨S, _, e⟩, _⟩ := h
  have := cnt_le S n
  omega
theorem IsMost.unique {G : Nat → Nat → Bool} {n k c d : Nat} (h : IsMost G n k c) (h' : IsMost G n k d) : c = d := by
  obtain ⟨⟨S, h1, e⟩, h2⟩ := h
  obtain ⟨⟨T, h3, e'⟩, h4⟩ := h'
  have := h2 T h3
  have := h4 S h1
  omega
theorem isMost_zero (G : Nat → Nat → Bool) (n : Nat) : IsMost G n 0 0 := by
  refine ⟨⟨fun _ => false, cov_zero.mpr fun _ _ => rfl, cnt_none fun _ _ => rfl⟩, fun S h => ?_⟩
  rw [cnt_none (cov_zero.mp h)]
  exact Nat.le_refl 0
theorem IsMost.mono {G : Nat → Nat → Bool} {n k l c d : Nat} (h : IsMost G n k c) (h' : IsMost G n l d) (hk : k ≤ l) : c ≤ d := by
  obtain ⟨⟨S, h1, e⟩, _⟩ := h
  have := h'.2 S (h1.mono hk fun _ _ z => z)
  omega
/-- below n one layer more holds more -/
theorem IsMost.grows {G : Nat → Nat → Bool} {n k c d : Nat} (h : IsMost G n k c) (h' : IsMost G n (k + 1) d) (hn : c < n) : c < d := by
  obtain ⟨⟨S, h1, e⟩, _⟩ := h
  have : ∃ a, a < n ∧ S a = false := by
    refine Classical.byContradiction fun z => ?_
    have : cnt S n = n := cnt_all fun i hi => by
      cases q : S i with
      | true => rfl
      | false => exact absurd ⟨i, hi, q⟩ z
    omega
  obtain ⟨a, ha, sa⟩ := this
  have q := h'.2 _ (h1.one_more (a := a))
  rw [cnt_add sa, if_pos ha] at q
  omega
theorem IsMost.full {G : Nat → Nat → Bool} {n k c v : Nat} (h : IsMost G n k c) (hv : IsChi G n (fun _ => true) v) : c = n ↔ v ≤ k := by
  rw [hv k]
  constructor
  · intro e
    obtain ⟨⟨S, h1, e1⟩, _⟩ := h
    exact h1.mono (Nat.le_refl k) fun i hi _ => all_of_cnt (by omega) i hi
  · intro q
    have := h.2 _ q
    rw [cnt_all fun _ _ => rfl] at this
    have := h.le
    omega
/-- one layer: the greatest -/
theorem isMost_one {G : Nat → Nat → Bool} (sym : ∀ i j, G i j = G j i) {n c : Nat} (h1 : ∃ s, Lay G n s ∧ s.length = c) (h2 : ∀ s, Lay G n s → s.length ≤ c) : IsMost G n 1 c := by
  obtain ⟨s, hs, e⟩ := h1
  refine ⟨⟨fun i => s.contains i, ⟨fun _ => 0, fun _ _ _ => Nat.zero_lt_one, fun i j hi hj ei ej ne _ => ?_⟩, by rw [lay_cnt hs]; exact e⟩, fun S ⟨f, f1, f2⟩ => ?_⟩
  · exact lay_adj sym hs (by simpa using ei) (by simpa using ej) ne
  · have q := h2 (listOf S n) (listOf_lay fun a b hab hb sa sb => f2 b a hb (by omega) sb sa (by omega) (by have := f1 a (by omega) sa; have := f1 b hb sb; omega))
    have e2 : (listOf S n).length = cnt S n := cnt_filter S n
    omega
/-! ### what the program's numbers are -/
/-- values as left_values tells them -/
def LeftOk (G : Nat → Nat → Bool) (n : Nat) (vs : List Int) : Prop :=
  ∃ v, IsChi G n (fun _ => true) v ∧ vs.length = v + 1 ∧ ∀ k : Nat, k ≤ v → ∃ c : Nat, IsMost G n k c ∧ vs[k]? = some ((n : Int) - (c : Int))
/-- the value at any place, 0 behind the end -/
def at0 (vs : List Int) (k : Nat) : Int := if k < vs.length then vs.getD k 0 else 0
theorem LeftOk.at {G : Nat → Nat → Bool} {n : Nat} {vs : List Int} (h : LeftOk G n vs) {k c : Nat} (hc : IsMost G n k c) : at0 vs k = (n : Int) - (c : Int) := by
  obtain ⟨v, hv, hl, hk⟩ := h
  unfold at0
  by_cases q : k < vs.length
  · rw [if_pos q]
    obtain ⟨d, hd, e⟩ := hk k (by omega)
    rw [List.getD_eq_getElem?_getD, e, hc.unique hd]; rfl
  · rw [if_neg q]
    have : c = n := (hc.full hv).mpr (by omega)
    omega
theorem exists_most {G : Nat → Nat → Bool} (n k : Nat) : ∃ c, IsMost G n k c := by
  have key : ∀ d, (∃ c, IsMost G n k c) ∨ ∀ S, Cov G n k S → cnt S n + d ≤ n := by
    intro d
    induction d with
    | zero => exact .inr fun S _ => by have := cnt_le S n; omega
    | succ d ih =>
      rcases ih with h | h
      · exact .inl h
      · by_cases q : ∃ S, Cov G n k S ∧ cnt S n + d = n
        · obtain ⟨S, hS, e⟩ := q
          exact .inl ⟨cnt S n, ⟨S, hS, rfl⟩, fun T hT => by have := h T hT; omega⟩
        · refine .inr fun S hS => ?_
          have h1 := h S hS
          have h2 : cnt S n + d ≠ n := fun e => q ⟨S, hS, e⟩
          omega
  rcases key (n + 1) with h | h
  · exact h
  · exact absurd (h (fun _ => false) ((cov_zero.mpr fun _ _ => rfl).mono (Nat.zero_le k) fun _ _ z => z)) (by omega)
/-- they fall to a single 0 -/
theorem LeftOk.falls {G : Nat → Nat → Bool} {n : Nat} {vs : List Int} (h : LeftOk G n vs) :
    vs ≠ [] ∧ vs[0]? = some (n : Int) ∧ vs[vs.length - 1]? = some 0 ∧ (∀ k, k + 1 < vs.length → ∃ a b, vs[k]? = some a ∧ vs[k + 1]? = some b ∧ b < a ∧ a ≠ 0) := by
  obtain ⟨v, hv, hl, hk⟩ := h
  refine ⟨fun e => by rw [e] at hl; simp at hl, ?_, ?_, fun k hk2 => ?_⟩
  · obtain ⟨c, hc, e⟩ := hk 0 (by omega)
    rw [e, hc.unique (isMost_zero G n)]
    simp
  · obtain ⟨c, hc, e⟩ := hk v (by omega)
    have : vs.length - 1 = v := by omega
    rw [this, e, (hc.full hv).mpr (Nat.le_refl v)]
    simp
  · obtain ⟨c, hc, e⟩ := hk k (by omega)
    obtain ⟨d, hd, e'⟩ := hk (k + 1) (by omega)
    have ne : c ≠ n := fun z => by
      have := (hc.full hv).mp z
      omega
    have := hc.le
    have := hc.grows hd (by omega)
    exact ⟨_, _, e, e', by omega, by omega⟩
/-- a wider graph -/
theorem LeftOk.wider {G G' : Nat → Nat → Bool} {n : Nat} {vs ws : List Int} (h : LeftOk G n vs) (h' : LeftOk G' n ws) (w : ∀ i j, i < n → j < n → G i j = true → G' i j = true) (k : Nat) : at0 ws k ≤ at0 vs k := by
  obtain ⟨c, hc⟩ := exists_most (G := G) n k
  obtain ⟨d, hd⟩ := exists_most (G := G') n k
  rw [h.at hc, h'.at hd]
  obtain ⟨⟨S, hS, e⟩, _⟩ := hc
  have := hd.2 S (hS.wider w)
  omega
/-- one bow goes -/
theorem cov_skip {G : Nat → Nat → Bool} {n k a : Nat} (ha : a ≤ n) {S : Nat → Bool} (h : Cov G (n + 1) k S) : Cov (fun i j => G (skip a i) (skip a j)) n k (fun i => S (skip a i)) := by
  obtain ⟨f, f1, f2⟩ := h
  have lt : ∀ i, i < n → skip a i < n + 1 := fun i hi => by unfold skip; split <;> omega
  refine ⟨fun i => f (skip a i), fun i hi e => f1 _ (lt i hi) e, fun i j hi hj ei ej ne e => f2 _ _ (lt i hi) (lt j hj) ei ej (fun z => ne ?_) e⟩
  unfold skip at z
  split at z <;> split at z <;> omega
def back (a i : Nat) : Nat := if i < a then i else i - 1
theorem skip_back {a i : Nat} (h : i ≠ a) : skip a (back a i) = i := by
  unfold skip back
  by_cases q : i < a
  · rw [if_pos q, if_pos q]
  · rw [if_neg q, if_neg (by omega)]; omega
theorem back_skip (a i : Nat) : back a (skip a i) = i := by
  unfold skip back
  by_cases q : i < a
  · rw [if_pos q, if_pos q]
  · rw [if_neg q, if_neg (by omega)]; omega
theorem cov_back {G : Nat → Nat → Bool} {n k a : Nat} (ha : a ≤ n) {S : Nat → Bool} (h : Cov (fun i j => G (skip a i) (skip a j)) n k S) : Cov G (n + 1) k (fun i => decide (i ≠ a) && S (back a i)) := by
  obtain ⟨f, f1, f2⟩ := h
  have lt : ∀ i, i < n + 1 → i ≠ a → back a i < n := fun i hi ne => by unfold back; split <;> omega
  refine ⟨fun i => f (back a i), fun i hi e => ?_, fun i j hi hj ei ej ne e => ?_⟩
  · obtain ⟨e1, e2⟩ := Bool.and_eq_true_iff.mp e
    exact f1 _ (lt i hi (of_decide_eq_true e1)) e2
  · obtain ⟨e1, e2⟩ := Bool.and_eq_true_iff.mp ei
    obtain ⟨e3, e4⟩ := Bool.and_eq_true_iff.mp ej
    have e1 := of_decide_eq_true e1
    have e3 := of_decide_eq_true e3
    have q := f2 _ _ (lt i hi e1) (lt j hj e3) e2 e4 (fun z => ne (by rw [← skip_back e1, ← skip_back e3, z])) e
    have q : G (skip a (back a i)) (skip a (back a j)) = true := q
    rw [skip_back e1, skip_back e3] at q
    exact q
theorem most_skip {G : Nat → Nat → Bool} {n k a c d : Nat} (ha : a ≤ n) (h : IsMost G (n + 1) k c) (h' : IsMost (fun i j => G (skip a i) (skip a j)) n k d) : d ≤ c ∧ c ≤ d + 1 := by
  constructor
  · obtain ⟨⟨S, hS, e⟩, _⟩ := h'
    have q := h.2 _ (cov_back ha hS)
    have r := cnt_skip (fun i => decide (i ≠ a) && S (back a i)) a n ha
    have e2 : cnt (fun i => decide (skip a i ≠ a) && S (back a (skip a i))) n = cnt S n := cnt_congr fun i _ => by
      have ne : skip a i ≠ a := by unfold skip; split <;> omega
      simp only [back_skip, decide_eq_true ne, Bool.true_and]
    have r' : cnt (fun i => decide (skip a i ≠ a) && S (back a (skip a i))) n + _ = _ := r
    rw [e2] at r'
    omega
  · obtain ⟨⟨S, hS, e⟩, _⟩ := h
    have q := h'.2 _ (cov_skip ha hS)
    have r := cnt_skip S a n ha
    split at r <;> omega
theorem LeftOk.less {G : Nat → Nat → Bool} {n a : Nat} {vs ws : List Int} (ha : a ≤ n) (h : LeftOk G (n + 1) vs) (h' : LeftOk (fun i j => G (skip a i) (skip a j)) n ws) (k : Nat) : at0 vs k - at0 ws k = 0 ∨ at0 vs k - at0 ws k = 1 := by
  obtain ⟨c, hc⟩ := exists_most (G := G) (n + 1) k
  obtain ⟨d, hd⟩ := exists_most (G := fun i j => G (skip a i) (skip a j)) n k
  have := most_skip ha hc hd
  rw [h.at hc, h'.at hd]
  omega
/-- the least number without a bow, in the whole row's own places -/
theorem chi_skip {G : Nat → Nat → Bool} {n a v : Nat} (ha : a ≤ n) (h : IsChi (fun i j => G (skip a i) (skip a j)) n (fun _ => true) v) : IsChi G (n + 1) (fun i => decide (i ≠ a)) v := fun k => by
  rw [h k]
  constructor
  · intro q
    exact (cov_back ha q).mono (Nat.le_refl k) fun i _ e => by simpa using e
  · intro q
    refine (cov_skip ha q).mono (Nat.le_refl k) fun i _ _ => ?_
    have ne : skip a i ≠ a := by unfold skip; split <;> omega
    exact decide_eq_true ne
end Bw
end
section
set_option Elab.async false
set_option linter.all false
set_option maxRecDepth 100000
set_option maxHeartbeats 4000000
/-! Comprehensions that give references; lists of numbers as data. -/
namespace Bw
open PySem PySem.Spec PyProof.Rows L2
/-- things with what stands there -/
abbrev Os := List (Addr × HO)
abbrev Os.vs (ps : Os) : List V := ps.map fun p => V.ref p.1
def OsAt (H : Hp) (ps : Os) : Prop := ∀ p ∈ ps, H p.1 = some p.2
theorem OsAt.same {H H' : Hp} {ps : Os} (e : Same H H') (h : OsAt H ps) : OsAt H' ps := fun p hp => e _ _ (h p hp)
section
variable {K : PySem.W.Frag} {a : Addr} {xs : List V} {g : TG} {tt : TT} {te : TE} {vs : List Nat} {σ : L2.St} {H1 : Hp} {D : Addr} {Qd : Hp → Prop}
/-- one turn of a comprehension whose items are references -/
def TurnO (N : Addr → Prop) (g : TG) (tt : TT) (te : TE) (vs : List Nat) (σ : L2.St) (acc acc' : List HO) (x : V) (H : Hp) : Prop :=
  ∀ (K1 : V → Hp → Prop) (K0 : Hp → Prop), (∀ r o H4, Same H H4 → N r → H4 r = some o → acc' = acc ++ [o] → K1 (.ref r) H4) → (∀ H3, Same H H3 → acc' = acc → K0 H3) →
    g x (wipe σ vs) H fun σ2 H2 => wipe σ2 vs = wipe σ vs ∧ tt σ2 H2 fun b H3 => if b = true then te σ2 H3 K1 else K0 H3
def AccO (N : Addr → Prop) (H1 : Hp) (D : Addr) (acc : Nat → List HO) (i : Nat) (H : Hp) : Prop := Same H1 H ∧ ∃ ps : Os, H D = some (.lst ps.vs) ∧ ps.map (·.2) = acc i ∧ OsAt H ps ∧ (∀ p ∈ ps, N p.1) ∧ ps.length ≤ i
theorem lcO_step {N : Addr → Prop} (hN : ∀ r, N r → r ≠ D) {acc : Nat → List HO} {i n : Nat} {x : V} {H : Hp} (hi : i < n) (hn : n ≤ sizeLine) (hD : H1 D = none) (h : TurnO N g tt te vs σ (acc i) (acc (i + 1)) x H) (p : AccO N H1 D acc i H) :
    g x (wipe σ vs) H fun σ2 H2 => wipe σ2 vs = wipe σ vs ∧ tt σ2 H2 fun b H3 =>
      if b = true then te σ2 H3 fun y H4 => ∃ acc', H4 D = some (.lst acc') ∧ acc'.length < sizeLine ∧ AccO N H1 D acc (i + 1) (upd H4 D (.lst (acc' ++ [y]))) else AccO N H1 D acc (i + 1) H3 := by
  obtain ⟨p1, ps, p2, p3, p4, p5, p6⟩ := p
  refine h _ _ (fun r o H4 sm hr ho e => ⟨ps.vs, sm _ _ p2, by rw [List.length_map]; omega, fun b o hb => ?_, ps ++ [(r, o)], by rw [upd_same]; unfold Os.vs; rw [List.map_append]; rfl, ?_, fun q hq => ?_, fun q hq => ?_, ?_⟩) (fun H3 sm e => ⟨p1.trans sm, ps, sm _ _ p2, by rw [e, p3], p4.same sm, p5, by omega⟩)
  · rw [upd_ne (ne_of_none hb hD)]
    exact sm _ _ (p1 _ _ hb)
  · rw [List.map_append, p3, e]; rfl
  · rcases List.mem_append.mp hq with h | h
    · rw [upd_ne (hN _ (p5 q h))]; exact sm _ _ (p4 q h)
    · have : q = (r, o) := by simpa using h
      subst this
      rw [upd_ne (hN _ hr)]; exact ho
  · rcases List.mem_append.mp hq with h | h
    · exact p5 q h
    · have : q = (r, o) := by simpa using h
      subst this
      exact hr
  · rw [List.length_append]; simp; omega
theorem accO_start {N : Addr → Prop} {acc : Nat → List HO} (hD : H1 D = none) (h0 : acc 0 = []) : AccO N H1 D acc 0 (upd H1 D (.lst [])) := ⟨same_upd hD, [], by rw [upd_same]; rfl, h0.symm, fun p hp => absurd hp List.not_mem_nil, fun p hp => absurd hp List.not_mem_nil, Nat.le_refl _⟩
theorem lc_objL (N : Addr → Prop) (hN : ∀ r, N r → r ≠ D) (acc : Nat → List HO) (hl : SqL K H1 a xs) (hn : xs.length ≤ sizeLine) (hD : H1 D = none) (h0 : acc 0 = [])
    (hs : ∀ i x H, xs[i]? = some x → Same H1 H → (∃ ys, H D = some (.lst ys)) → TurnO N g tt te vs σ (acc i) (acc (i + 1)) x H) (hd : ∀ H (ps : Os), Same H1 H → H D = some (.lst ps.vs) → ps.map (·.2) = acc xs.length → OsAt H ps → (∀ p ∈ ps, N p.1) → Qd H) :
    ∃ W : Nat → Nat → Hp → Prop, (∃ m, W 0 m (upd H1 D (.lst []))) ∧ ∀ i m H, W i m H →
      ((Itl K a).stop i H ∧ Qd H) ∨ ((Itl K a).go i H ∧ ∃ Nx : Hp → Prop, (∀ H', Nx H' → ∃ m', m' < m ∧ W (i + 1) m' H') ∧ ∀ x H', (Itl K a).yld i H x H' → g x (wipe σ vs) H' fun σ2 H2 => wipe σ2 vs = wipe σ vs ∧ tt σ2 H2 fun b H3 =>
        if b = true then te σ2 H3 fun y H4 => ∃ acc, H4 D = some (.lst acc) ∧ acc.length < sizeLine ∧ Nx (upd H4 D (.lst (acc ++ [y]))) else Nx H3) :=
  lc_list (K := K) (a := a) (xs := xs) (AccO N H1 D acc) (accO_start hD h0) (fun i H _ p => p.1.seq hl) (fun i x H hx p => lcO_step hN (List.getElem?_eq_some_iff.mp hx).1 hn hD (hs i x H hx p.1 ⟨_, p.2.choose_spec.1⟩) p) (fun H ⟨p1, ps, p2, p3, p4, p5, _⟩ => hd H ps p1 p2 p3 p4 p5)
theorem lc_objR {lo : Int} {n : Nat} (N : Addr → Prop) (hN : ∀ r, N r → r ≠ D) (acc : Nat → List HO) (hn : n ≤ sizeLine) (hD : H1 D = none) (h0 : acc 0 = [])
    (hs : ∀ i H, i < n → Same H1 H → (∃ ys, H D = some (.lst ys)) → TurnO N g tt te vs σ (acc i) (acc (i + 1)) (.int (lo + i)) H) (hd : ∀ H (ps : Os), Same H1 H → H D = some (.lst ps.vs) → ps.map (·.2) = acc n → OsAt H ps → (∀ p ∈ ps, N p.1) → Qd H) :
    ∃ W : Nat → Nat → Hp → Prop, (∃ m, W 0 m (upd H1 D (.lst []))) ∧ ∀ i m H, W i m H →
      ((Itr lo n).stop i H ∧ Qd H) ∨ ((Itr lo n).go i H ∧ ∃ Nx : Hp → Prop, (∀ H', Nx H' → ∃ m', m' < m ∧ W (i + 1) m' H') ∧ ∀ x H', (Itr lo n).yld i H x H' → g x (wipe σ vs) H' fun σ2 H2 => wipe σ2 vs = wipe σ vs ∧ tt σ2 H2 fun b H3 =>
        if b = true then te σ2 H3 fun y H4 => ∃ acc, H4 D = some (.lst acc) ∧ acc.length < sizeLine ∧ Nx (upd H4 D (.lst (acc ++ [y]))) else Nx H3) :=
  lc_range (lo := lo) (n := n) (AccO N H1 D acc) (accO_start hD h0) (fun i H hi p => lcO_step hN hi hn hD (hs i H hi p.1 ⟨_, p.2.choose_spec.1⟩) p) (fun H ⟨p1, ps, p2, p3, p4, p5, _⟩ => hd H ps p1 p2 p3 p4 p5)
/-- the things so far of a map, of a filter and a map -/
def accOM {α : Type} (l : List α) (f : α → HO) (i : Nat) : List HO := (l.take i).map f
theorem accOM_succ {α : Type} {l : List α} {f : α → HO} {i : Nat} {x : α} (h : l[i]? = some x) : accOM l f (i + 1) = accOM l f i ++ [f x] := by
  unfold accOM
  obtain ⟨hi, rfl⟩ := List.getElem?_eq_some_iff.mp h
  rw [List.take_add_one, List.map_append, List.getElem?_eq_getElem hi]
  rfl
theorem accOM_all {α : Type} {l : List α} {f : α → HO} {n : Nat} (h : n = l.length) : accOM l f n = l.map f := by
  unfold accOM
  rw [h, List.take_length]
def accOF {α : Type} (l : List α) (p : α → Bool) (f : α → HO) (i : Nat) : List HO := ((l.take i).filter p).map f
theorem accOF_yes {α : Type} {l : List α} {p : α → Bool} {f : α → HO} {i : Nat} {x : α} (h : l[i]? = some x) (hp : p x = true) : accOF l p f (i + 1) = accOF l p f i ++ [f x] := by
  unfold accOF
  obtain ⟨hi, rfl⟩ := List.getElem?_eq_some_iff.mp h
  rw [List.take_add_one, List.filter_append, List.map_append, List.getElem?_eq_getElem hi]
  simp [hp]
theorem accOF_no {α : Type} {l : List α} {p : α → Bool} {f : α → HO} {i : Nat} {x : α} (h : l[i]? = some x) (hp : p x = false) : accOF l p f (i + 1) = accOF l p f i := by
  unfold accOF
  obtain ⟨hi, rfl⟩ := List.getElem?_eq_some_iff.mp h
  rw [List.take_add_one, List.filter_append, List.map_append, List.getElem?_eq_getElem hi]
  simp [hp]
theorem accOF_all {α : Type} {l : List α} {p : α → Bool} {f : α → HO} {n : Nat} (h : n = l.length) : accOF l p f n = (l.filter p).map f := by
  unfold accOF
  rw [h, List.take_length]
end
theorem rangeget {n i : Nat} (h : i < n) : (List.range n)[i]? = some i := List.getElem?_range h
/-! ### lists of numbers -/
abbrev nv (l : List Nat) : List V := l.map fun n : Nat => V.int n
abbrev nO (l : List Nat) : HO := .lst (nv l)
abbrev dN (l : List Nat) : List PyData := l.map fun n : Nat => PyData.int n
abbrev dL (l : List Nat) : PyData := .list (dN l)
theorem dpAll_nv (K : PySem.W.Frag) (H : Hp) : ∀ l : List Nat, DpAll K H (nv l) (dN l)
  | [] => .nil
  | n :: l => .cons (.int _) (dpAll_nv K H l)
theorem dp_nO {K : PySem.W.Frag} {H : Hp} {r : Addr} {l : List Nat} (h : H r = some (nO l)) : Dp K H (.ref r) (dL l) := .lst (.inl (.inl h)) (dpAll_nv K H l)
theorem alike_dN : ∀ l m : List Nat, PySem.W.alikeAll (dN l) (dN m) = true
  | [], [] => rfl
  | [], _ :: _ => rfl
  | _ :: _, [] => rfl
  | a :: l, b :: m => by
    show PySem.W.alikeAll (PyData.int a :: dN l) (PyData.int b :: dN m) = true
    rw [PySem.W.alikeAll, alike_dN l m]
    rfl
theorem alike_dL (l m : List Nat) : PySem.W.alike (dL l) (dL m) = true := by
  rw [PySem.W.alike]
  exact alike_dN l m
theorem eqv_dN : ∀ l m : List Nat, PyData.eqvAll (dN l) (dN m) = decide (l = m)
  | [], [] => by simp [PyData.eqvAll]
  | [], _ :: _ => by simp [PyData.eqvAll]
  | _ :: _, [] => by simp [PyData.eqvAll]
  | a :: l, b :: m => by
    show PyData.eqvAll (PyData.int a :: dN l) (PyData.int b :: dN m) = _
    rw [PyData.eqvAll, eqv_dN l m, PyData.eqv]
    by_cases h1 : a = b
    · subst h1
      simp
    · have h2 : ¬ (a : Int) = b := by omega
      simp [h1, h2]
theorem eqv_dL (l m : List Nat) : PyData.eqv (dL l) (dL m) = decide (l = m) := by
  rw [PyData.eqv]
  exact eqv_dN l m
theorem canLay_dN : ∀ l : List Nat, PyData.canLayAll0 (dN l) = true
  | [] => rfl
  | a :: l => by
    show PyData.canLayAll0 (PyData.int a :: dN l) = true
    rw [PyData.canLayAll0, canLay_dN l]
    rfl
theorem depth_dN : ∀ l : List Nat, PyData.depthAll (dN l) ≤ 1
  | [] => by decide
  | a :: l => by
    show PyData.depthAll (PyData.int a :: dN l) ≤ 1
    rw [PyData.depthAll]
    exact Nat.max_le.mpr ⟨by rw [PyData.depth]; omega, depth_dN l⟩
theorem atI_z {xs : List V} {i : Nat} {v : V} (h : xs[i]? = some v) : atI xs (0 + (i : Int)) = some v := by rw [Int.zero_add]; exact atI_nat h
end Bw
end
section
set_option Elab.async false
set_option linter.all false
set_option maxRecDepth 100000
set_option maxHeartbeats 4000000
namespace Bw
open PySem PySem.Spec PyProof.Rows L2
section
variable {w : World} {K : PySem.W.Frag} {mg : Str → Option Value} {base : Heap}
def spTog (K : PySem.W.Frag) : Sp := fun vs H Q _ => ∃ (p q : Addr) (bs : Bs) (k : Kd) (i j : Nat) (b d : Addr × Bow), vs = [.ref p, .ref q, .int i, .int j] ∧ RowAt K H p bs ∧ KindAt K H q k ∧ bs[i]? = some b ∧ bs[j]? = some d ∧ ∀ H', Same H H' → Q (.bl (k (wayOf b.2 d.2))) H'
theorem sc_together : FnScope ["row", "kind", "i", "j"] ["row", "kind", "i", "j"] (defScope s_together) := ⟨rfl, rfl, rfl, by decide +kernel, rfl, by decide +kernel, by decide +kernel⟩
theorem ok_together (c : Cy w K mg base) : Dn PG w K mg base "together" 5 ["row", "kind", "i", "j"] (spTog K) := by
  obtain ⟨fd, F⟩ := c.fd_together
  have D_Row___getitem__ := ok_Row_getitem c
  have D_Kind_lets := ok_Kind_lets c
  refine ⟨walkD F sc_together (fun vs H Q E h => ?_) (fun cdv A outer s H vs Q E hr h => ?_) fun _ _ _ _ _ _ us hl => match us, hl with | [_, _, _, _], _ => rfl, c.m_together, F.kp⟩
  · obtain ⟨a, b, x, y, i, j, u, v, rfl, _⟩ := h
    rfl
  · obtain ⟨p, q, bs, k, i, j, b, d, rfl, hR, hk, hi, hj, Qk⟩ := h
    obtain ⟨dx, l, hp, hl⟩ := hR.ex
    obtain ⟨dk, lk, hkp, hkl⟩ := id hk
    have hb := hR.ok b (List.mem_of_getElem? hi)
    have hd := hR.ok d (List.mem_of_getElem? hj)
    refine ⟨_, (pss_one (ps_ret (Dm.call (K0 := K) (by rfl) D_Kind_lets (hr.mono (by decide)) (pv 1) (pa_cons (Dm.ix (K0 := K) (by rfl) D_Row___getitem__ c.fi_Row (hr.mono (by decide)) (pv 0) (pv 2)) (pa_cons (Dm.ix (K0 := K) (by rfl) D_Row___getitem__ c.fi_Row (hr.mono (by decide)) (pv 0) (pv 3)) pa_nil))))), ?_⟩
    refine ⟨_, rfl, q, dk, _, rfl, hkp, rfl, _, rfl, _, rfl, ⟨p, dx, _, rfl, hp⟩, p, bs, i, b, rfl, hR, hi, ?_⟩
    refine ⟨_, rfl, _, rfl, ⟨p, dx, _, rfl, hp⟩, p, bs, j, d, rfl, hR, hj, ?_⟩
    exact ⟨q, b.1, d.1, k, b.2, d.2, rfl, hk, hb.1, hd.1, Qk⟩
/-- who may be with whom -/
def gr (bs : List Bow) (k : Kd) (i j : Nat) : Bool := decide (i ≠ j) && k (wayOf (bs.getD i (0, 1)) (bs.getD j (0, 1)))
theorem gr_at {bs : Bs} {k : Kd} {i j : Nat} {b d : Addr × Bow} (hi : bs[i]? = some b) (hj : bs[j]? = some d) : gr bs.bows k i j = (decide (i ≠ j) && k (wayOf b.2 d.2)) := by
  unfold gr Bs.bows
  rw [List.getD_eq_getElem?_getD, List.getD_eq_getElem?_getD, List.getElem?_map, List.getElem?_map, hi, hj]
  rfl
/-- a table of tests -/
def WebAt (H : Hp) (a : Addr) (G : Nat → Nat → Bool) (n : Nat) : Prop := ∃ ps : Os, H a = some (.lst ps.vs) ∧ OsAt H ps ∧ ps.map (·.2) = (List.range n).map fun i => HO.lst ((List.range n).map fun j => V.bl (G i j))
theorem WebAt.same {H H' : Hp} {a : Addr} {G : Nat → Nat → Bool} {n : Nat} (e : Same H H') (h : WebAt H a G n) : WebAt H' a G n := by
  obtain ⟨ps, h1, h2, h3⟩ := h
  exact ⟨ps, e _ _ h1, h2.same e, h3⟩
theorem WebAt.row {H : Hp} {a : Addr} {G : Nat → Nat → Bool} {n i : Nat} (h : WebAt H a G n) (hi : i < n) : ∃ (ps : Os) (r : Addr), H a = some (.lst ps.vs) ∧ ps.vs[i]? = some (.ref r) ∧ H r = some (.lst ((List.range n).map fun j => V.bl (G i j))) := by
  obtain ⟨ps, h1, h2, h3⟩ := h
  have e := congrArg (fun l => l[i]?) h3
  simp only [List.getElem?_map, rangeget hi] at e
  cases z : ps[i]? with
  | none => rw [z] at e; cases e
  | some p =>
    rw [z] at e
    have e2 : p.2 = _ := Option.some.inj e
    refine ⟨ps, p.1, h1, by rw [List.getElem?_map, z]; rfl, ?_⟩
    rw [h2 p (List.mem_of_getElem? z), e2]
def spWeb (K : PySem.W.Frag) : Sp := fun vs H Q _ => ∃ (p q : Addr) (bs : Bs) (k : Kd), vs = [.ref p, .ref q] ∧ RowAt K H p bs ∧ KindAt K H q k ∧ bs.length ≤ 1000 ∧ ∀ a H', WebAt H' a (gr bs.bows k) bs.length → Same H H' → Q (.ref a) H'
theorem sc_web_of : FnScope ["row", "kind", "many", "i", "j"] ["row", "kind"] (defScope s_web_of) := ⟨rfl, rfl, rfl, by decide +kernel, rfl, by decide +kernel, by decide +kernel⟩
theorem ok_web_of (c : Cy w K mg base) : Dn PG w K mg base "web_of" 6 ["row", "kind"] (spWeb K) := by
  obtain ⟨fd, F⟩ := c.fd_web_of
  have D_Row___len__ := ok_Row_len c
  have D_together := ok_together c
  refine ⟨walkD F sc_web_of (fun vs H Q E h => ?_) (fun cdv A outer s H vs Q E hr h => ?_) fun _ _ _ _ _ _ us hl => match us, hl with | [_, _], _ => rfl, c.m_web_of, F.kp⟩
  · obtain ⟨a, b, x, y, rfl, _⟩ := h
    rfl
  · obtain ⟨p, q, bs, k, rfl, hR, hk, hlen, Qk⟩ := h
    obtain ⟨dx, l, hp, hl⟩ := hR.ex
    have hn : bs.length ≤ sizeLine := Nat.le_trans hlen (by decide)
    refine ⟨_, (pss_cons (ps_set (i := 2) sc_web_of.nd rfl (by first | exact Or.inl rfl | exact Or.inr rfl) (pe_callB (Dm.len (K0 := K) (by rfl) D_Row___len__ (hr.mono (by decide))) (by rfl) c.f_len PySem.boot_len (pa_cons (pv 0) pa_nil)))
      (pss_one (ps_ret (pe_lc rfl sc_web_of.nd (pi_range1 (by rfl) c.f_range (pa_cons (pv 2) pa_nil)) (blkOk_by (own := [("i", 3)]) (by show blkC ["row", "kind", "many", "i", "j"] (defScope s_web_of) _ _ = true; decide +kernel)) (fun _ _ _ _ _ => (pg_name (i := 3) sc_web_of.nd rfl (by first | exact Or.inl rfl | exact Or.inr rfl))) (fun _ _ _ _ _ => pts_nil) (fun _ _ _ _ _ => (pe_lc rfl sc_web_of.nd (pi_range1 (by rfl) c.f_range (pa_cons (pv 2) pa_nil)) (blkOk_by (own := [("j", 4)]) (by show blkC ["row", "kind", "many", "i", "j"] (relS _ (defScope s_web_of)) _ _ = true; decide +kernel)) (fun _ _ _ _ _ => (pg_name (i := 4) sc_web_of.nd rfl (by first | exact Or.inl rfl | exact Or.inr rfl))) (fun _ _ _ _ _ => pts_nil) (fun _ _ _ _ _ => (pe_and (pe_cmpR op_ne (pv 3) (pv 4) (nomark _)) (pe_one (D_together.call (hr.mono (by decide)) rfl (pa_cons (pv 0) (pa_cons (pv 1) (pa_cons (pv 3) (pa_cons (pv 4) pa_nil)))))))))))))), ?_⟩
    refine ⟨_, rfl, p, dx, _, rfl, hp, p, bs, rfl, hR, bs.length, rfl, by omega, ?_⟩
    refine ⟨_, rfl, bs.length, rfl, by omega, by omega, ?_⟩
    intro D hD
    refine lc_objR (lo := 0) (n := bs.length) (fun r => r ≠ D) (fun _ h => h) (accOM (List.range bs.length) fun i => HO.lst ((List.range bs.length).map fun j => V.bl (gr bs.bows k i j))) hn hD rfl (fun i H' hi sm hDD K1 K0 k1 k0 => ?_) fun H' ps sm e1 e2 e3 _ => ?_
    · refine ⟨rfl, ?_⟩
      refine ⟨_, rfl, bs.length, rfl, by omega, by omega, ?_⟩
      intro D2 hD2
      refine lc_accR (lo := 0) (n := bs.length) (accM (List.range bs.length) fun j => V.bl (gr bs.bows k i j)) hn hD2 rfl (fun j H2 hj sm2 _ K1' K0' k1' k0' => ?_) fun H2 sm2 e => ?_
      · refine ⟨rfl, ?_⟩
        have hib : bs[i]? = some bs[i] := List.getElem?_eq_getElem hi
        have hjb : bs[j]? = some bs[j] := List.getElem?_eq_getElem hj
        have eg := gr_at (k := k) hib hjb
        have fin : ∀ H3, Same H2 H3 → K1' (V.bl (gr bs.bows k i j)) H3 := fun H3 s3 => k1' _ _ s3 (accM_succ (f := fun j => V.bl (gr bs.bows k i j)) (rangeget hj))
        refine ⟨_, rfl, _, rfl, rfl, _, rfl, ?_⟩
        refine iteNI (fun h => ?_) (fun h => ?_)
        · refine ⟨_, rfl, _, rfl, _, rfl, _, rfl, p, q, bs, k, i, j, _, _, ?_, hR.same (sm.trans sm2), hk.same (sm.trans sm2), hib, hjb, fun H3 s3 => ?_⟩
          · simp
          · have := fin H3 s3
            rw [eg, decide_eq_true (by omega : i ≠ j), Bool.true_and] at this
            exact this
        · have := fin H2 (Same.refl _)
          rw [eg, decide_eq_false (by omega : ¬ i ≠ j), Bool.false_and] at this
          exact this
      · rw [accM_all (List.length_range).symm] at e
        obtain ⟨ys, hy⟩ := hDD
        exact k1 D2 _ H2 sm2 (fun z => by rw [z, hy] at hD2; cases hD2) e (accOM_succ (rangeget hi))
    · rw [accOM_all (List.length_range).symm] at e2
      exact Qk D H' ⟨ps, e1, e3, e2⟩ sm
/-- a list of lists of numbers -/
def LsAt (H : Hp) (a : Addr) (ls : List (List Nat)) : Prop := ∃ ps : Os, H a = some (.lst ps.vs) ∧ OsAt H ps ∧ ps.map (·.2) = ls.map nO
theorem LsAt.same {H H' : Hp} {a : Addr} {ls : List (List Nat)} (e : Same H H') (h : LsAt H a ls) : LsAt H' a ls := by
  obtain ⟨ps, h1, h2, h3⟩ := h
  exact ⟨ps, e _ _ h1, h2.same e, h3⟩
theorem os_get {α : Type} {ps : Os} {l : List α} {f : α → HO} (h : ps.map (·.2) = l.map f) {i : Nat} {x : V} (hx : ps.vs[i]? = some x) : ∃ p y, p ∈ ps ∧ l[i]? = some y ∧ x = .ref p.1 ∧ p.2 = f y := by
  rw [List.getElem?_map] at hx
  obtain ⟨p, hp, rfl⟩ := Option.map_eq_some_iff.mp hx
  have e := congrArg (fun l => l[i]?) h
  simp only [List.getElem?_map, hp, Option.map_some] at e
  obtain ⟨y, hy, e2⟩ := Option.map_eq_some_iff.mp e.symm
  exact ⟨p, y, List.mem_of_getElem? hp, hy, rfl, e2.symm⟩
theorem os_len {α : Type} {ps : Os} {l : List α} {f : α → HO} (h : ps.map (·.2) = l.map f) : ps.length = l.length := by
  have := congrArg List.length h
  rw [List.length_map, List.length_map] at this
  exact this
theorem bl_all (l : List Nat) (f : Nat → Bool) : (l.map fun x => V.bl (f x)) = (l.map f).map V.bl := by rw [List.map_map]; rfl
theorem all_id (l : List Nat) (f : Nat → Bool) : (l.map f).all id = l.all f := by rw [List.all_map]; rfl
/-- the same, all of it new behind a heap -/
def LsNew (H H' : Hp) (a : Addr) (ls : List (List Nat)) : Prop := ∃ ps : Os, H' a = some (.lst ps.vs) ∧ OsAt H' ps ∧ ps.map (·.2) = ls.map nO ∧ H a = none ∧ ∀ p ∈ ps, H p.1 = none
theorem LsNew.at {H H' : Hp} {a : Addr} {ls : List (List Nat)} (h : LsNew H H' a ls) : LsAt H' a ls := by
  obtain ⟨ps, h1, h2, h3, _⟩ := h
  exact ⟨ps, h1, h2, h3⟩
def spLayers (K : PySem.W.Frag) : Sp := fun vs H Q _ => ∃ (p q : Addr) (bs : Bs) (k : Kd), vs = [.ref p, .ref q] ∧ RowAt K H p bs ∧ KindAt K H q k ∧ bs.length ≤ 10 ∧ ∀ a H', LsNew H H' a (allL (gr bs.bows k) bs.length) → Same H H' → Q (.ref a) H'
theorem sc_all_layers : FnScope ["row", "kind", "web", "found", "index", "some", "one"] ["row", "kind"] (defScope s_all_layers) := ⟨rfl, rfl, rfl, by decide +kernel, rfl, by decide +kernel, by decide +kernel⟩
theorem ok_all_layers (c : Cy w K mg base) : Dn PG w K mg base "all_layers" 7 ["row", "kind"] (spLayers K) := by
  obtain ⟨fd, F⟩ := c.fd_all_layers
  have D_Row___len__ := ok_Row_len c
  have D_web_of := ok_web_of c
  refine ⟨walkD F sc_all_layers (fun vs H Q E h => ?_) (fun cdv A outer s H vs Q E hr h => ?_) fun _ _ _ _ _ _ us hl => match us, hl with | [_, _], _ => rfl, c.m_all_layers, F.kp⟩
  · obtain ⟨a, b, x, y, rfl, _⟩ := h
    rfl
  · obtain ⟨p, q, bs, k, rfl, hR, hk, hlen, Qk⟩ := h
    have big : (1024 : Nat) * 2 ≤ sizeLine := by decide
    refine ⟨_, (pss_cons (ps_asg (pe_tup (pa_cons (D_web_of.call (hr.mono (by decide)) rfl (pa_cons (pv 0) (pa_cons (pv 1) pa_nil))) (pa_cons (pe_lst (pa_cons (pe_lst pa_nil) pa_nil)) pa_nil))) (pg_tup_k (K0 := K) (by rfl) (by rfl) (pgs_cons (pg_name (i := 2) sc_all_layers.nd rfl (by first | exact Or.inl rfl | exact Or.inr rfl)) (pgs_cons (pg_name (i := 3) sc_all_layers.nd rfl (by first | exact Or.inl rfl | exact Or.inr rfl)) pgs_nil))))
      (pss_cons (ps_for PassesOwn.never rfl (pi_range1 (by rfl) c.f_range (pa_cons (pe_callB (Dm.len (K0 := K) (by rfl) D_Row___len__ (hr.mono (by decide))) (by rfl) c.f_len PySem.boot_len (pa_cons (pv 0) pa_nil)) pa_nil)) (pg_name (i := 4) sc_all_layers.nd rfl (by first | exact Or.inl rfl | exact Or.inr rfl)) (pss_one (ps_expr (pe_bm_k (K0 := K) (by rfl) PySem.F.plainAttrs_list PySem.F.slot_list_extend PySem.F.type_list_extend mt_extend (pv 3) (pa_cons (pe_lc rfl sc_all_layers.nd (pi_list_k (K0 := K) (by rfl) (pv 3)) (blkOk_by (own := [("some", 5)]) (by show blkC ["row", "kind", "web", "found", "index", "some", "one"] (defScope s_all_layers) _ _ = true; decide +kernel)) (fun _ _ _ _ _ => (pg_name (i := 5) sc_all_layers.nd rfl (by first | exact Or.inl rfl | exact Or.inr rfl))) (fun _ _ _ _ _ => (pts_one (pt_val (pe_callB (cr_all_k (K0 := K) (by rfl) rfl) (by rfl) c.f_all (by decide +kernel) (pa_cons (pe_lc rfl sc_all_layers.nd (pi_list_k (K0 := K) (by rfl) (pv 5)) (blkOk_by (own := [("one", 6)]) (by show blkC ["row", "kind", "web", "found", "index", "some", "one"] (relS _ (defScope s_all_layers)) _ _ = true; decide +kernel)) (fun _ _ _ _ _ => (pg_name (i := 6) sc_all_layers.nd rfl (by first | exact Or.inl rfl | exact Or.inr rfl))) (fun _ _ _ _ _ => pts_nil) (fun _ _ _ _ _ => (pe_ix (ix_list_k (K0 := K) (by rfl)) (pe_ix (ix_list_k (K0 := K) (by rfl)) (pv 2) (pv 4) (fun _ _ => rfl)) (pv 6) (fun _ _ => rfl)))) pa_nil))))) (fun _ _ _ _ _ => (pe_op op_cat (pv 5) (pe_lst (pa_cons (pv 4) pa_nil))))) pa_nil)))))
      (pss_one (ps_ret (pv 3))))), ?_⟩
    refine ⟨_, rfl, _, rfl, p, q, bs, k, rfl, hR, hk, by omega, fun A H1 hA s1 => ?_⟩
    refine ⟨Nat.zero_le _, fun m0 hm0 => ⟨by show 1 ≤ sizeLine; decide, fun F hF => ⟨by show 2 ≤ sizeLine; decide, fun t ht => ⟨t, _, rfl, .inl (.inl upd_same), rfl, ?_⟩⟩⟩⟩
    have sF : Same H1 (upd (upd (upd H1 m0 (.lst [])) F (.lst [V.ref m0])) t (.tup [V.ref A, V.ref F])) := ((same_upd hm0).trans (same_upd hF)).trans (same_upd ht)
    have nm0F : m0 ≠ F := ne_of_none (upd_same (H := H1)) hF
    have nFt : F ≠ t := ne_of_none (upd_same (H := upd H1 m0 (.lst []))) ht
    have nm0t : m0 ≠ t := fun z => by rw [← z, upd_ne nm0F, upd_same] at ht; cases ht
    have hF1 : H1 F = none := by
      cases z : H1 F with
      | none => rfl
      | some o => rw [upd_ne nm0F.symm, z] at hF; cases hF
    obtain ⟨dx, l, hp, hl⟩ := (hR.same (s1.trans sF)).ex
    generalize hH2 : upd (upd (upd H1 m0 (.lst [])) F (.lst [V.ref m0])) t (.tup [V.ref A, V.ref F]) = H2 at sF hp hl ⊢
    have i1 : H2 F = some (.lst [V.ref m0]) := by rw [← hH2, upd_ne nFt, upd_same]
    have i2 : H2 m0 = some (.lst []) := by rw [← hH2, upd_ne nm0t, upd_ne nm0F, upd_same]
    refine ⟨_, _, rfl, _, _, rfl, rfl, _, rfl, p, dx, _, rfl, hp, p, bs, rfl, hR.same (s1.trans sF), bs.length, rfl, by omega, ?_⟩
    refine ⟨bs.length, rfl, by omega, by omega, ?_⟩
    refine for_range (lo := 0) (n := bs.length) (fun i σ H' => (∃ x4 x5 x6, σ = [some (.ref p), some (.ref q), some (.ref A), some (.ref F), x4, x5, x6]) ∧ Same H1 H' ∧ ∃ ps : Os, H' F = some (.lst ps.vs) ∧ OsAt H' ps ∧ ps.map (·.2) = (allL (gr bs.bows k) i).map nO ∧ ∀ p ∈ ps, p.1 ≠ F ∧ H1 p.1 = none)
      ⟨⟨_, _, _, rfl⟩, sF, [(m0, .lst [])], i1, fun x hx => by rw [List.mem_singleton.mp hx]; exact i2, rfl, fun x hx => by rw [List.mem_singleton.mp hx]; exact ⟨nm0F, hm0⟩⟩ ?_ ?_
    · rintro i σ H' hi ⟨⟨x4, x5, x6, rfl⟩, sm, ps, f1, f2, f3, f4⟩
      have lps : ps.length ≤ 1024 := by
        rw [os_len f3]
        exact Nat.le_trans (allL_len _ _) (Nat.le_trans (Nat.pow_le_pow_right (by omega) (by omega : i ≤ 10)) (by decide))
      refine ⟨_, rfl, .inl ⟨rfl, _, .inl (.inl f1)⟩, ?_⟩
      refine ⟨_, rfl, F, rfl, ⟨_, .inl (.inl f1)⟩, fun D hD => ?_⟩
      refine lc_objL (fun r => r ≠ D ∧ r ≠ F ∧ H1 r = none) (fun _ h => h.1) (accOF (allL (gr bs.bows k) i) (fun l => l.all fun one => gr bs.bows k i one) fun l => nO (l ++ [i])) (.inl (.inl f1)) (by rw [List.length_map]; omega) hD rfl (fun i' x H3 hx s3 hDD K1 K0 k1 k0 => ?_) fun H3 qs s3 e1 e2 e3 e4 => ?_
      · obtain ⟨pp, y, hpp, hy, rfl, ey⟩ := os_get f3 hx
        obtain ⟨ys, hDy⟩ := hDD
        have ho : H3 pp.1 = some (nO y) := by rw [s3 _ _ (f2 pp hpp), ey]
        have ly := mem_allL.mp (List.mem_of_getElem? hy)
        have yl : y.length ≤ 10 := by
          have := lay_cnt ly
          have h2 := cnt_le (fun x => y.contains x) i
          omega
        refine ⟨rfl, ?_⟩
        refine ⟨_, rfl, pp.1, rfl, ⟨_, .inl (.inl ho)⟩, fun D2 hD2 => ?_⟩
        refine lc_accL (accM y fun one => V.bl (gr bs.bows k i one)) (.inl (.inl ho)) (by rw [List.length_map]; omega) hD2 rfl (fun j x H4 hx4 s4 _ K1' K0' k1' k0' => ?_) fun H4 s4 e4 => ?_
        · obtain ⟨z, hz, rfl⟩ : ∃ z, y[j]? = some z ∧ V.int z = x := by rw [List.getElem?_map] at hx4; exact Option.map_eq_some_iff.mp hx4
          have hzn : z < bs.length := by have := ly.2 z (List.mem_of_getElem? hz); omega
          obtain ⟨ws, r, w1, w2, w3⟩ := (hA.same (sm.trans (s3.trans s4))).row hi
          refine ⟨rfl, ?_⟩
          refine ⟨_, rfl, _, rfl, A, _, _, _, rfl, rfl, .inl (.inl w1), atI_z w2, ?_⟩
          · refine ⟨_, rfl, r, _, _, _, rfl, rfl, .inl (.inl w3), atI_nat (by rw [List.getElem?_map, rangeget hzn]; rfl), ?_⟩
            exact k1' _ _ (Same.refl _) (accM_succ (f := fun one => V.bl (gr bs.bows k i one)) hz)
        · rw [accM_all (by rw [List.length_map]), bl_all] at e4
          refine ⟨D2, _, rfl, .inl (.inl e4), _, rfl, ?_⟩
          rw [all_id]
          have s34 : Same H3 H4 := s4
          refine iteB (fun h => ?_) (fun h => ?_)
          · refine ⟨_, rfl, _, rfl, by show 1 ≤ sizeLine; decide, fun u hu => ?_⟩
            have s5 := s34.trans (same_upd (o := .lst [V.int (0 + (i : Int))]) hu)
            refine ⟨pp.1, u, _, _, rfl, rfl, s5 _ _ ho, upd_same, by simp only [List.length_map, List.length_cons, List.length_nil]; omega, fun v hv => ?_⟩
            have s6 := s5.trans (same_upd (o := .lst (nv y ++ [V.int (0 + (i : Int))])) hv)
            refine k1 v (nO (y ++ [i])) _ s6 ⟨fun z => ?_, fun z => ?_, ((sm.trans s3).trans s5).free hv⟩ ?_ (accOF_yes hy h)
            · rw [z] at hv
              have := s5 _ _ hDy
              rw [hv] at this
              cases this
            · rw [z] at hv
              have := s5 _ _ (s3 _ _ f1)
              rw [hv] at this
              cases this
            · rw [upd_same]
              unfold nO nv
              rw [List.map_append]
              simp
          · exact k0 _ s34 (accOF_no hy h)
      · rw [accOF_all (by rw [List.length_map, os_len f3])] at e2
        have lqs : qs.length ≤ 1024 := by
          rw [os_len e2]
          exact Nat.le_trans (List.length_filter_le _ _) (by rw [← os_len f3]; exact lps)
        refine ⟨F, D, _, _, rfl, rfl, s3 _ _ f1, e1, by simp only [List.length_map]; omega, ?_⟩
        have nFq : ∀ x ∈ qs, x.1 ≠ F ∧ H1 x.1 = none := fun x hx => (e4 x hx).2
        refine ⟨⟨_, _, _, rfl⟩, fun b o hb => ?_, ps ++ qs, by rw [upd_same]; unfold Os.vs; rw [List.map_append], fun x hx => ?_, ?_, fun x hx => ?_⟩
        · rw [upd_ne (ne_of_none hb hF1)]
          exact s3 _ _ (sm _ _ hb)
        · rcases List.mem_append.mp hx with h | h
          · rw [upd_ne (f4 x h).1]; exact s3 _ _ (f2 x h)
          · rw [upd_ne (nFq x h).1]; exact e3 x h
        · rw [List.map_append, f3, e2]
          show _ = (allL _ i ++ _).map nO
          rw [List.map_append, List.map_map]
          rfl
        · rcases List.mem_append.mp hx with h | h
          · exact f4 x h
          · exact nFq x h
    · rintro σ H' ⟨⟨x4, x5, x6, rfl⟩, sm, ps, f1, f2, f3, f4⟩
      exact ⟨_, rfl, Qk F H' ⟨ps, f1, f2, f3, s1.free hF1, fun x hx => s1.free (f4 x hx).2⟩ (s1.trans sm)⟩
end
end Bw
end
section
set_option Elab.async false
set_option linter.all false
set_option maxRecDepth 100000
set_option maxHeartbeats 4000000
namespace Bw
open PySem PySem.Spec PyProof.Rows L2
section
variable {w : World} {K : PySem.W.Frag} {mg : Str → Option Value} {base : Heap}
theorem zip_fst {α β : Type} : ∀ {l : List α} {m : List β}, l.length = m.length → (l.zip m).map (·.1) = l
  | [], [], _ => rfl
  | a :: l, b :: m, h => by
    rw [List.zip_cons_cons, List.map_cons, zip_fst (by simpa using h)]
  | [], _ :: _, h => by simp at h
  | _ :: _, [], h => by simp at h
theorem zip_snd {α β : Type} : ∀ {l : List α} {m : List β}, l.length = m.length → (l.zip m).map (·.2) = m
  | [], [], _ => rfl
  | a :: l, b :: m, h => by
    rw [List.zip_cons_cons, List.map_cons, zip_snd (by simpa using h)]
  | [], _ :: _, h => by simp at h
  | _ :: _, [], h => by simp at h
theorem zip_mem {ps : Os} : ∀ {qs : Os} {L : List (List Nat)}, qs.map (·.2) = L.map nO → ∀ t ∈ qs.zip L, t.1 ∈ qs ∧ t.1.2 = nO t.2
  | [], _, _, t, ht => by simp at ht
  | q :: qs, [], h, t, ht => by simp at ht
  | q :: qs, l :: L, h, t, ht => by
    rw [List.map_cons, List.map_cons] at h
    injection h with h1 h2
    rw [List.zip_cons_cons] at ht
    rcases List.mem_cons.mp ht with e | ht
    · subst e; exact ⟨by simp, h1⟩
    · obtain ⟨a, b⟩ := zip_mem (ps := ps) h2 t ht
      exact ⟨List.mem_cons_of_mem _ a, b⟩
/-- sorted of a list of lists of numbers -/
theorem rSorted_ls {H : Hp} {Q : VK} {a : Addr} {L : List (List Nat)} (h : LsAt H a L) (q : ∀ r H' ls, LsAt H' r ls → ls.Perm L → Same H H' → Q (.ref r) H') : rSortedG K [.ref a] H Q := by
  obtain ⟨qs, h1, h2, h3⟩ := h
  have hl := os_len h3
  have zm := zip_mem (ps := []) h3
  let f : (Addr × HO) × List Nat → V × PyData := fun t => (V.ref t.1.1, dL t.2)
  have e1 : ((qs.zip L).map f).map (·.1) = qs.vs := by
    have := congrArg (List.map fun p : Addr × HO => V.ref p.1) (zip_fst hl)
    rw [List.map_map] at this ⊢
    exact this
  have e2 : ((qs.zip L).map f).map (·.2) = L.map dL := by
    have := congrArg (List.map dL) (zip_snd hl)
    rw [List.map_map] at this ⊢
    exact this
  refine ⟨a, (qs.zip L).map f, rfl, .inl (.inl (by rw [h1, e1])), fun p hp => ?_, fun d hd d' hd' => ?_, .inr fun d hd => ?_, fun p hp => ?_, fun r hr => ?_⟩
  · obtain ⟨t, ht, rfl⟩ := List.mem_map.mp hp
    obtain ⟨m1, m2⟩ := zm t ht
    exact dp_nO (by rw [h2 _ m1, m2])
  · rw [e2] at hd hd'
    obtain ⟨l, _, rfl⟩ := List.mem_map.mp hd
    obtain ⟨l', _, rfl⟩ := List.mem_map.mp hd'
    exact alike_dL l l'
  · rw [e2] at hd
    obtain ⟨l, _, rfl⟩ := List.mem_map.mp hd
    exact ⟨(by intro z; cases z), fun xs z => by cases z⟩
  · obtain ⟨t, ht, rfl⟩ := List.mem_map.mp hp
    show PyData.depth (dL t.2) ≤ 60
    rw [PyData.depth]
    have := depth_dN t.2
    omega
  · let rr : (Addr × HO) × List Nat → (Addr × HO) × List Nat → Bool := fun x y => PySem.W.dataLe false Prod.snd (f x) (f y)
    have em : ((qs.zip L).map f).mergeSort (PySem.W.dataLe false Prod.snd) = ((qs.zip L).mergeSort rr).map f := (List.map_mergeSort (r := rr) (s := PySem.W.dataLe false Prod.snd) (f := f) (l := qs.zip L) fun _ _ _ _ => rfl).symm
    rw [em]
    have pm : ((qs.zip L).mergeSort rr).Perm (qs.zip L) := List.mergeSort_perm _ _
    refine q r _ (((qs.zip L).mergeSort rr).map (·.2)) ⟨((qs.zip L).mergeSort rr).map (·.1), by rw [upd_same, List.map_map]; unfold Os.vs; rw [List.map_map]; rfl, fun p hp => ?_, ?_⟩ ?_ (same_upd hr)
    · obtain ⟨t, ht, rfl⟩ := List.mem_map.mp hp
      have hm := (zm t (pm.mem_iff.mp ht)).1
      rw [upd_ne (ne_of_none (h2 _ hm) hr)]
      exact h2 _ hm
    · rw [List.map_map, List.map_map]
      exact List.map_congr_left fun t ht => (zm t (pm.mem_iff.mp ht)).2
    · have := pm.map (fun t => t.2)
      rw [zip_snd hl] at this
      exact this
/-- the greatest layers: all of them, in some order -/
def Greatest (G : Nat → Nat → Bool) (n : Nat) (ls : List (List Nat)) : Prop := ∃ m, ls ≠ [] ∧ (∀ s, s ∈ ls ↔ Lay G n s ∧ s.length = m) ∧ ∀ s, Lay G n s → s.length ≤ m
def spGreatest (K : PySem.W.Frag) : Sp := fun vs H Q _ => ∃ (p q : Addr) (bs : Bs) (k : Kd), vs = [.ref p, .ref q] ∧ RowAt K H p bs ∧ KindAt K H q k ∧ bs.length ≤ 10 ∧ ∀ a H' ls, LsAt H' a ls → Greatest (gr bs.bows k) bs.length ls → ls.length ≤ 1024 → Same H H' → Q (.ref a) H'
theorem sc_greatest_layers : FnScope ["row", "kind", "some", "most", "one"] ["row", "kind"] (defScope s_greatest_layers) := ⟨rfl, rfl, rfl, by decide +kernel, rfl, by decide +kernel, by decide +kernel⟩
theorem ok_greatest_layers (c : Cy w K mg base) : Dn PG w K mg base "greatest_layers" 8 ["row", "kind"] (spGreatest K) := by
  obtain ⟨fd, F⟩ := c.fd_greatest_layers
  have D_all_layers := ok_all_layers c
  refine ⟨walkD F sc_greatest_layers (fun vs H Q E h => ?_) (fun cdv A outer s H vs Q E hr h => ?_) fun _ _ _ _ _ _ us hl => match us, hl with | [_, _], _ => rfl, c.m_greatest_layers, F.kp⟩
  · obtain ⟨a, b, x, y, rfl, _⟩ := h
    rfl
  · obtain ⟨p, q, bs, k, rfl, hR, hk, hlen, Qk⟩ := h
    have big : (1024 : Nat) * 2 ≤ sizeLine := by decide
    refine ⟨_, (pss_cons (ps_set (i := 2) sc_greatest_layers.nd rfl (by first | exact Or.inl rfl | exact Or.inr rfl) (D_all_layers.call (hr.mono (by decide)) rfl (pa_cons (pv 0) (pa_cons (pv 1) pa_nil))))
      (pss_cons (ps_set (i := 3) sc_greatest_layers.nd rfl (by first | exact Or.inl rfl | exact Or.inr rfl) (pe_callB (cr_max_k (K0 := K) (by rfl) rfl) (by rfl) c.f_max (by decide +kernel) (pa_cons (pe_lc rfl sc_greatest_layers.nd (pi_list_k (K0 := K) (by rfl) (pv 2)) (blkOk_by (own := [("one", 4)]) (by show blkC ["row", "kind", "some", "most", "one"] (defScope s_greatest_layers) _ _ = true; decide +kernel)) (fun _ _ _ _ _ => (pg_name (i := 4) sc_greatest_layers.nd rfl (by first | exact Or.inl rfl | exact Or.inr rfl))) (fun _ _ _ _ _ => pts_nil) (fun _ _ _ _ _ => (pe_callB (call_len_seq_k (K0 := K) (by rfl)) (by rfl) c.f_len PySem.boot_len (pa_cons (pv 4) pa_nil)))) pa_nil)))
      (pss_one (ps_ret (pe_callB (cr_sortedG_k (K0 := K) (by rfl) (hu64 hr)) (by rfl) c.f_sorted (by decide +kernel) (pa_cons (pe_lc rfl sc_greatest_layers.nd (pi_list_k (K0 := K) (by rfl) (pv 2)) (blkOk_by (own := [("one", 4)]) (by show blkC ["row", "kind", "some", "most", "one"] (defScope s_greatest_layers) _ _ = true; decide +kernel)) (fun _ _ _ _ _ => (pg_name (i := 4) sc_greatest_layers.nd rfl (by first | exact Or.inl rfl | exact Or.inr rfl))) (fun _ _ _ _ _ => (pts_one (pt_cmpR op_eq (pe_callB (call_len_seq_k (K0 := K) (by rfl)) (by rfl) c.f_len PySem.boot_len (pa_cons (pv 4) pa_nil)) (pv 3) (nomark _)))) (fun _ _ _ _ _ => (pv 4))) pa_nil)))))), ?_⟩
    refine ⟨_, rfl, _, rfl, p, q, bs, k, rfl, hR, hk, hlen, fun a H1 ha s1 => ?_⟩
    replace ha := ha.at
    generalize hG : gr bs.bows k = G at ha Qk
    have hL := allL_len G bs.length
    have hL2 : (allL G bs.length).length ≤ 1024 := Nat.le_trans hL (Nat.le_trans (Nat.pow_le_pow_right (by omega) hlen) (by decide))
    obtain ⟨ps, h1, h2, h3⟩ := id ha
    have lp := os_len h3
    refine ⟨_, rfl, a, rfl, ⟨_, .inl (.inl h1)⟩, fun D hD => ?_⟩
    refine lc_accL (accM (allL G bs.length) fun l => V.int (l.length : Nat)) (.inl (.inl h1)) (by rw [List.length_map]; omega) hD rfl (fun i x H2 hx s2 _ K1 K0 k1 k0 => ?_) fun H2 s2 e => ?_
    · obtain ⟨pp, y, hpp, hy, rfl, ey⟩ := os_get h3 hx
      have ho : H2 pp.1 = some (nO y) := by rw [s2 _ _ (h2 pp hpp), ey]
      refine ⟨rfl, _, rfl, pp.1, _, rfl, .inl (.inl (.inl ho)), ?_⟩
      rw [List.length_map]
      exact k1 _ _ (Same.refl _) (accM_succ (f := fun l : List Nat => V.int (l.length : Nat)) hy)
    · rw [accM_all (by rw [List.length_map, lp])] at e
      refine ⟨D, (allL G bs.length).map fun l => ((l.length : Nat) : Int), rfl, .inl (.inl (by rw [e, List.map_map]; rfl)), ?_, fun m hm hle => ?_⟩
      · rw [List.length_map]
        exact List.length_pos_iff.mpr (allL_ne G _)
      · obtain ⟨l0, hl0, rfl⟩ := List.mem_map.mp hm
        have hle' : ∀ l ∈ allL G bs.length, l.length ≤ l0.length := fun l hl => by
          have := hle _ (List.mem_map.mpr ⟨l, hl, rfl⟩)
          omega
        have a2 := ha.same s2
        obtain ⟨ps2, g1, g2, g3⟩ := id a2
        refine ⟨_, rfl, a, rfl, ⟨_, .inl (.inl g1)⟩, fun D2 hD2 => ?_⟩
        refine lc_objL (fun r => r ≠ D2) (fun _ h => h) (accOF (allL G bs.length) (fun l => decide (l.length = l0.length)) nO) (.inl (.inl g1)) (by rw [List.length_map, os_len g3]; omega) hD2 rfl (fun i x H3 hx s3 _ K1 K0 k1 k0 => ?_) fun H3 qs s3 e1 e2 e3 _ => ?_
        · obtain ⟨pp, y, hpp, hy, rfl, ey⟩ := os_get g3 hx
          have ho2 : H2 pp.1 = some (nO y) := by rw [g2 pp hpp, ey]
          have ho : H3 pp.1 = some (nO y) := s3 _ _ ho2
          refine ⟨rfl, _, rfl, pp.1, _, rfl, .inl (.inl (.inl ho)), _, rfl, rfl, _, rfl, ?_⟩
          rw [List.length_map]
          refine iteI (fun h => ?_) (fun h => ?_)
          · exact ⟨_, rfl, k1 pp.1 _ _ (Same.refl _) (fun z => by rw [z, hD2] at ho2; cases ho2) ho (accOF_yes hy (decide_eq_true (by omega)))⟩
          · exact k0 _ (Same.refl _) (accOF_no hy (decide_eq_false (by omega)))
        · rw [accOF_all (by rw [List.length_map, os_len g3])] at e2
          refine rSorted_ls (L := (allL G bs.length).filter fun l => decide (l.length = l0.length)) ⟨qs, e1, e3, e2⟩ fun r H4 ls hls pm s4 => ?_
          refine Qk r H4 ls hls ⟨l0.length, fun z => ?_, fun s => ?_, fun s hs => hle' s (mem_allL.mpr hs)⟩ (by rw [pm.length_eq]; exact Nat.le_trans (List.length_filter_le _ _) hL2) (((s1.trans s2).trans s3).trans s4)
          · rw [z] at pm
            have := pm.symm.mem_iff (a := l0) |>.mp (List.mem_filter.mpr ⟨hl0, decide_eq_true rfl⟩)
            cases this
          · rw [pm.mem_iff, List.mem_filter, mem_allL, decide_eq_true_eq]
/-- those that are not in a layer -/
def oth (n : Nat) (s : List Nat) : List Nat := (List.range n).filter fun i => !s.contains i
def isFull (G : Nat → Nat → Bool) (n : Nat) (s : List Nat) : Bool := !((oth n s).any fun i => s.all fun one => G i one)
theorem inV_nv (z : Nat) : ∀ l : List Nat, inV (.int z) (nv l) = l.contains z
  | [] => by rfl
  | y :: l => by
    have ih := inV_nv z l
    unfold inV at ih ⊢
    rw [show nv (y :: l) = V.int y :: nv l from rfl, List.any_cons, ih, List.contains_cons]
    show ((y : Int) == (z : Int) || _) = _
    by_cases h : z = y
    · subst h; simp
    · have h1 : ((y : Int) == (z : Int)) = false := by simp; omega
      have h2 : (z == y) = false := by simp [h]
      rw [h1, h2]
theorem flat_nv (l : List Nat) : (nv l).all flatV = true := by rw [List.all_map]; exact List.all_eq_true.mpr fun _ _ => rfl
theorem any_id (l : List Nat) (f : Nat → Bool) : (l.map f).any id = l.any f := by rw [List.any_map]; rfl
def spFull (K : PySem.W.Frag) : Sp := fun vs H Q _ => ∃ (p q : Addr) (bs : Bs) (k : Kd), vs = [.ref p, .ref q] ∧ RowAt K H p bs ∧ KindAt K H q k ∧ bs.length ≤ 10 ∧
  ∀ a H' ls, LsAt H' a ls → (∀ s, s ∈ ls ↔ Lay (gr bs.bows k) bs.length s ∧ isFull (gr bs.bows k) bs.length s = true) → Same H H' → Q (.ref a) H'
theorem sc_full_layers : FnScope ["row", "kind", "web", "found", "some", "others", "index", "one"] ["row", "kind"] (defScope s_full_layers) := ⟨rfl, rfl, rfl, by decide +kernel, rfl, by decide +kernel, by decide +kernel⟩
theorem ok_full_layers (c : Cy w K mg base) : Dn PG w K mg base "full_layers" 8 ["row", "kind"] (spFull K) := by
  obtain ⟨fd, F⟩ := c.fd_full_layers
  have D_all_layers := ok_all_layers c
  have D_web_of := ok_web_of c
  have D_Row___len__ := ok_Row_len c
  refine ⟨walkD F sc_full_layers (fun vs H Q E h => ?_) (fun cdv A outer s H vs Q E hr h => ?_) fun _ _ _ _ _ _ us hl => match us, hl with | [_, _], _ => rfl, c.m_full_layers, F.kp⟩
  · obtain ⟨a, b, x, y, rfl, _⟩ := h
    rfl
  · obtain ⟨p, q, bs, k, rfl, hR, hk, hlen, Qk⟩ := h
    have big : (1024 : Nat) * 2 ≤ sizeLine := by decide
    refine ⟨_, (pss_cons (ps_asg (pe_tup (pa_cons (D_web_of.call (hr.mono (by decide)) rfl (pa_cons (pv 0) (pa_cons (pv 1) pa_nil))) (pa_cons (pe_lst pa_nil) pa_nil))) (pg_tup_k (K0 := K) (n := 2) (by rfl) (by rfl) (pgs_cons (pg_name (i := 2) sc_full_layers.nd rfl (by first | exact Or.inl rfl | exact Or.inr rfl)) (pgs_cons (pg_name (i := 3) sc_full_layers.nd rfl (by first | exact Or.inl rfl | exact Or.inr rfl)) pgs_nil))))
      (pss_cons (ps_for PassesOwn.never rfl (pi_list_k (K0 := K) (by rfl) (D_all_layers.call (hr.mono (by decide)) rfl (pa_cons (pv 0) (pa_cons (pv 1) pa_nil)))) (pg_name (i := 4) sc_full_layers.nd rfl (by first | exact Or.inl rfl | exact Or.inr rfl)) (pss_cons (ps_setLc (i := 5) rfl sc_full_layers.nd rfl rfl (sw_true rfl rfl rfl (by decide +kernel)) (pi_range1 (by rfl) c.f_range (pa_cons (pe_callB (Dm.len (K0 := K) (by rfl) D_Row___len__ (hr.mono (by decide))) (by rfl) c.f_len PySem.boot_len (pa_cons (pv 0) pa_nil)) pa_nil)) (blkOk_by (own := [("index", 6)]) (by show blkC ["row", "kind", "web", "found", "some", "others", "index", "one"] (defScope s_full_layers) _ _ = true; decide +kernel)) (fun _ _ _ _ _ => (pg_name (i := 6) sc_full_layers.nd rfl (by first | exact Or.inl rfl | exact Or.inr rfl))) (fun _ _ _ _ _ => (pts_one (pt_cmpR (op_notIn_seq_k (K0 := K) (by rfl)) (pv 6) (pv 4) (by rfl)))) (fun _ _ _ _ _ => (pv 6)))
      (pss_one (ps_if (pt_not (pt_val (pe_callB (cr_any_k (K0 := K) (by rfl) rfl) (by rfl) c.f_any (by decide +kernel) (pa_cons (pe_lc rfl sc_full_layers.nd (pi_list_k (K0 := K) (by rfl) (pv 5)) (blkOk_by (own := [("index", 6)]) (by show blkC ["row", "kind", "web", "found", "some", "others", "index", "one"] (defScope s_full_layers) _ _ = true; decide +kernel)) (fun _ _ _ _ _ => (pg_name (i := 6) sc_full_layers.nd rfl (by first | exact Or.inl rfl | exact Or.inr rfl))) (fun _ _ _ _ _ => pts_nil) (fun _ _ _ _ _ => (pe_callB (cr_all_k (K0 := K) (by rfl) rfl) (by rfl) c.f_all (by decide +kernel) (pa_cons (pe_lc rfl sc_full_layers.nd (pi_list_k (K0 := K) (by rfl) (pv 4)) (blkOk_by (own := [("one", 7)]) (by show blkC ["row", "kind", "web", "found", "some", "others", "index", "one"] (relS _ (defScope s_full_layers)) _ _ = true; decide +kernel)) (fun _ _ _ _ _ => (pg_name (i := 7) sc_full_layers.nd rfl (by first | exact Or.inl rfl | exact Or.inr rfl))) (fun _ _ _ _ _ => pts_nil) (fun _ _ _ _ _ => (pe_ix (ix_list_k (K0 := K) (by rfl)) (pe_ix (ix_list_k (K0 := K) (by rfl)) (pv 2) (pv 6) (fun _ _ => rfl)) (pv 7) (fun _ _ => rfl)))) pa_nil)))) pa_nil)))) (pss_one (ps_expr (pe_bm_k (K0 := K) (by rfl) PySem.F.plainAttrs_list PySem.F.slot_list_append PySem.F.type_list_append mt_append (pv 3) (pa_cons (pv 4) pa_nil)))) pss_nil))))
      (pss_one (ps_ret (pe_callB (cr_sortedG_k (K0 := K) (by rfl) (hu64 hr)) (by rfl) c.f_sorted (by decide +kernel) (pa_cons (pv 3) pa_nil)))))), ?_⟩
    refine ⟨_, rfl, _, rfl, p, q, bs, k, rfl, hR, hk, by omega, fun A H1 hA s1 => ?_⟩
    refine ⟨Nat.zero_le _, fun F hF => ⟨by show 2 ≤ sizeLine; decide, fun t ht => ⟨t, _, rfl, .inl (.inl upd_same), rfl, ?_⟩⟩⟩
    have nFt : F ≠ t := ne_of_none (upd_same (H := H1)) ht
    have sF : Same H1 (upd (upd H1 F (.lst [])) t (.tup [V.ref A, V.ref F])) := (same_upd hF).trans (same_upd ht)
    generalize hH2 : upd (upd H1 F (.lst [])) t (.tup [V.ref A, V.ref F]) = H2 at sF ⊢
    have i1 : H2 F = some (.lst []) := by rw [← hH2, upd_ne nFt, upd_same]
    have s2 := s1.trans sF
    refine ⟨_, _, rfl, _, _, rfl, rfl, ?_⟩
    refine ⟨_, rfl, _, rfl, p, q, bs, k, rfl, hR.same s2, hk.same s2, hlen, fun a H3 ha s3 => ?_⟩
    obtain ⟨ps, h1, h2, h3, h4, h5⟩ := ha
    have lp := os_len h3
    have hL := allL_len (gr bs.bows k) bs.length
    have hL2 : (allL (gr bs.bows k) bs.length).length ≤ 1024 := Nat.le_trans hL (Nat.le_trans (Nat.pow_le_pow_right (by omega) hlen) (by decide))
    have naF : a ≠ F := fun z => by rw [z, i1] at h4; cases h4
    have npF : ∀ x ∈ ps, x.1 ≠ F := fun x hx z => by have := h5 x hx; rw [z, i1] at this; cases this
    have keep1 : ∀ H', (∀ b o, H3 b = some o → b ≠ F → H' b = some o) → Same H1 H' := fun H' kp b o e => kp b o (s3 _ _ (sF _ _ e)) (ne_of_none e hF)
    refine ⟨a, rfl, ⟨_, .inl (.inl h1)⟩, for_list (K := K) (a := a) (xs := ps.vs) (fun i σ H' => (∃ x4 x5 x6 x7, σ = [some (.ref p), some (.ref q), some (.ref A), some (.ref F), x4, x5, x6, x7]) ∧ (∀ b o, H3 b = some o → b ≠ F → H' b = some o) ∧
      ∃ qs : Os, H' F = some (.lst qs.vs) ∧ OsAt H' qs ∧ qs.map (·.2) = (((allL (gr bs.bows k) bs.length).take i).filter (isFull (gr bs.bows k) bs.length)).map nO ∧ qs.length ≤ i ∧ ∀ x ∈ qs, x.1 ≠ F)
      ⟨⟨_, _, _, _, rfl⟩, fun b o e _ => e, [], s3 _ _ i1, fun x hx => absurd hx List.not_mem_nil, rfl, Nat.le_refl _, fun x hx => absurd hx List.not_mem_nil⟩ (fun i σ H' _ ⟨_, kp, _⟩ => .inl (.inl (kp _ _ h1 naF))) ?_ ?_⟩
    · rintro i x σ H' hx ⟨⟨x4, x5, x6, x7, rfl⟩, kp, qs, f1, f2, f3, f4, f5⟩
      have hil : i < ps.length := by have := (List.getElem?_eq_some_iff.mp hx).1; rwa [List.length_map] at this
      obtain ⟨pp, y, hpp, hy, rfl, ey⟩ := os_get h3 hx
      have sm := keep1 H' kp
      have ho : H' pp.1 = some (nO y) := by rw [kp _ _ (h2 pp hpp) (npF pp hpp), ey]
      have ly := mem_allL.mp (List.mem_of_getElem? hy)
      have yl : y.length ≤ 10 := by
        have := lay_cnt ly
        have h2 := cnt_le (fun x => y.contains x) bs.length
        omega
      obtain ⟨dx, l, hp, hl⟩ := (hR.same (s1.trans sm)).ex
      refine ⟨_, rfl, p, dx, _, rfl, hp, p, bs, rfl, hR.same (s1.trans sm), bs.length, rfl, by omega, ?_⟩
      refine ⟨bs.length, rfl, by omega, by omega, fun O hO => ?_⟩
      refine lc_accR (lo := 0) (n := bs.length) (accF (List.range bs.length) (fun i => !y.contains i) fun i => V.int i) (by omega) hO rfl (fun j H4 hj s4 _ K1 K0 k1 k0 => ?_) fun H4 s4 e4 => ?_
      · refine ⟨rfl, _, rfl, _, rfl, pp.1, _, rfl, .inl (.inl (.inl (s4 _ _ ho))), rfl, flat_nv _, _, rfl, ?_⟩
        have ez : inV (V.int (0 + (j : Int))) (nv y) = y.contains j := by rw [Int.zero_add]; exact inV_nv j y
        show if (!inV (V.int (0 + (j : Int))) (nv y)) = true then _ else _
        rw [ez]
        refine iteB (fun h => ?_) (fun h => ?_)
        · refine ⟨_, rfl, k1 _ _ (Same.refl _) ?_⟩
          rw [Int.zero_add]
          exact accF_yes (rangeget hj) h
        · exact k0 _ (Same.refl _) (accF_no (rangeget hj) h)
      · rw [accF_all (List.length_range).symm] at e4
        have e4' : H4 O = some (nO (oth bs.length y)) := e4
        have lo : (oth bs.length y).length ≤ 10 := Nat.le_trans (List.length_filter_le _ _) (by rw [List.length_range]; exact hlen)
        refine ⟨_, rfl, O, rfl, ⟨_, .inl (.inl e4')⟩, fun D hD => ?_⟩
        refine lc_accL (accM (oth bs.length y) fun i => V.bl (y.all fun one => gr bs.bows k i one)) (.inl (.inl e4')) (by rw [List.length_map]; omega) hD rfl (fun j x H5 hx5 s5 _ K1 K0 k1 k0 => ?_) fun H5 s5 e5 => ?_
        · obtain ⟨z, hz, rfl⟩ : ∃ z, (oth bs.length y)[j]? = some z ∧ V.int (z : Nat) = x := by rw [List.getElem?_map] at hx5; exact Option.map_eq_some_iff.mp hx5
          have zn : z < bs.length := List.mem_range.mp (List.mem_filter.mp (List.mem_of_getElem? hz)).1
          have ho5 := s5 _ _ (s4 _ _ ho)
          refine ⟨rfl, _, rfl, pp.1, rfl, ⟨_, .inl (.inl ho5)⟩, fun D2 hD2 => ?_⟩
          refine lc_accL (accM y fun one => V.bl (gr bs.bows k z one)) (.inl (.inl ho5)) (by rw [List.length_map]; omega) hD2 rfl (fun m x H6 hx6 s6 _ K1' K0' k1' k0' => ?_) fun H6 s6 e6 => ?_
          · obtain ⟨u, hu, rfl⟩ : ∃ u, y[m]? = some u ∧ V.int (u : Nat) = x := by rw [List.getElem?_map] at hx6; exact Option.map_eq_some_iff.mp hx6
            have un : u < bs.length := ly.2 u (List.mem_of_getElem? hu)
            obtain ⟨ws, r, w1, w2, w3⟩ := (hA.same (sm.trans (s4.trans (s5.trans s6)))).row zn
            refine ⟨rfl, ?_⟩
            refine ⟨_, rfl, _, rfl, A, _, _, _, rfl, rfl, .inl (.inl w1), atI_nat w2, ?_⟩
            refine ⟨_, rfl, r, _, _, _, rfl, rfl, .inl (.inl w3), atI_nat (by rw [List.getElem?_map, rangeget un]; rfl), ?_⟩
            exact k1' _ _ (Same.refl _) (accM_succ (f := fun one => V.bl (gr bs.bows k z one)) hu)
          · rw [accM_all (by rw [List.length_map]), bl_all] at e6
            refine ⟨D2, _, rfl, .inl (.inl e6), ?_⟩
            rw [all_id]
            exact k1 _ _ s6 (accM_succ (f := fun i => V.bl (y.all fun one => gr bs.bows k i one)) hz)
        · rw [accM_all (by rw [List.length_map]), bl_all] at e5
          refine ⟨D, _, rfl, .inl (.inl e5), _, rfl, ?_⟩
          rw [any_id]
          have s45 : Same H' H5 := s4.trans s5
          have kp5 : ∀ b o, H3 b = some o → b ≠ F → H5 b = some o := fun b o e hb => s45 _ _ (kp b o e hb)
          have et : ((allL (gr bs.bows k) bs.length).take (i + 1)).filter (isFull (gr bs.bows k) bs.length) = ((allL (gr bs.bows k) bs.length).take i).filter (isFull (gr bs.bows k) bs.length) ++ (if isFull (gr bs.bows k) bs.length y = true then [y] else []) := by
            rw [List.take_add_one, List.filter_append, hy]
            simp [List.filter_cons]
          show if isFull (gr bs.bows k) bs.length y = true then _ else _
          refine iteB (fun h => ?_) (fun h => ?_)
          · rw [h, if_pos rfl] at et
            refine ⟨_, rfl, .inl ⟨rfl, _, .inl (.inl (s45 _ _ f1))⟩, _, rfl, F, _, _, rfl, rfl, s45 _ _ f1, by rw [List.length_map]; omega, ?_⟩
            refine ⟨⟨_, _, _, _, rfl⟩, fun b o e hb => by rw [upd_ne hb]; exact kp5 b o e hb, qs ++ [(pp.1, nO y)], by rw [upd_same]; unfold Os.vs; rw [List.map_append]; rfl, fun x hx => ?_, by rw [List.map_append, f3, et, List.map_append]; rfl, by rw [List.length_append]; simp; omega, fun x hx => ?_⟩
            · rcases List.mem_append.mp hx with h | h
              · rw [upd_ne (f5 x h)]; exact s45 _ _ (f2 x h)
              · rw [List.mem_singleton.mp h, upd_ne (npF pp hpp)]; exact s45 _ _ ho
            · rcases List.mem_append.mp hx with h | h
              · exact f5 x h
              · rw [List.mem_singleton.mp h]; exact npF pp hpp
          · rw [h, if_neg Bool.false_ne_true, List.append_nil] at et
            exact ⟨⟨_, _, _, _, rfl⟩, kp5, qs, s45 _ _ f1, f2.same s45, by rw [f3, et], by omega, f5⟩
    · rintro σ H' ⟨⟨x4, x5, x6, x7, rfl⟩, kp, qs, f1, f2, f3, f4, f5⟩
      rw [List.length_map, lp, List.take_length] at f3
      refine ⟨_, rfl, rSorted_ls ⟨qs, f1, f2, f3⟩ fun r H4 ls hls pm s4 => Qk r H4 ls hls (fun s => ?_) ((s1.trans (keep1 H' kp)).trans s4)⟩
      rw [pm.mem_iff, List.mem_filter, mem_allL]
end
end Bw
end
section
set_option Elab.async false
set_option linter.all false
set_option maxRecDepth 100000
set_option maxHeartbeats 4000000
namespace Bw
open PySem PySem.Spec PyProof.Rows L2
section
variable {w : World} {K : PySem.W.Frag} {mg : Str → Option Value} {base : Heap}
theorem mask_int (l : List Nat) : ((l.map fun i => ((2 : Int) ^ i)).sum) = (maskOf l : Nat) := by
  unfold maskOf
  induction l with
  | nil => rfl
  | cons a l ih =>
    rw [List.map_cons, List.sum_cons, ih, List.map_cons, List.sum_cons]
    push_cast
    rfl
def spMask (K : PySem.W.Frag) : Sp := fun vs H Q _ => ∃ (a : Addr) (l : List Nat), vs = [.ref a] ∧ H a = some (nO l) ∧ l.length ≤ 1000 ∧ (∀ x ∈ l, x ≤ 1000) ∧ ∀ H', Same H H' → Q (.int (maskOf l : Nat)) H'
theorem sc_mask_of : FnScope ["indexes", "index"] ["indexes"] (defScope s_mask_of) := ⟨rfl, rfl, rfl, by decide +kernel, rfl, by decide +kernel, by decide +kernel⟩
theorem ok_mask_of (c : Cy w K mg base) : Dn PG w K mg base "mask_of" 1 ["indexes"] (spMask K) := by
  obtain ⟨fd, F⟩ := c.fd_mask_of
  refine ⟨walkD F sc_mask_of (fun vs H Q E h => ?_) (fun cdv A outer s H vs Q E hr h => ?_) fun _ _ _ _ _ _ us hl => match us, hl with | [_], _ => rfl, c.m_mask_of, F.kp⟩
  · obtain ⟨a, b, rfl, _⟩ := h
    rfl
  · obtain ⟨a, l, rfl, ha, hlen, hx, Qk⟩ := h
    refine ⟨_, (pss_one (ps_ret (pe_callB (cr_sum_k (K0 := K) (by rfl) rfl) (by rfl) c.f_sum (by decide +kernel) (pa_cons (pe_lc rfl sc_mask_of.nd (pi_list_k (K0 := K) (by rfl) (pv 0)) (blkOk_by (own := [("index", 1)]) (by show blkC ["indexes", "index"] (defScope s_mask_of) _ _ = true; decide +kernel)) (fun _ _ _ _ _ => (pg_name (i := 1) sc_mask_of.nd rfl (by first | exact Or.inl rfl | exact Or.inr rfl))) (fun _ _ _ _ _ => pts_nil) (fun _ _ _ _ _ => (pe_op op_shl pe_int (pv 1)))) pa_nil)))), ?_⟩
    refine ⟨_, rfl, a, rfl, ⟨_, .inl (.inl ha)⟩, fun D hD => ?_⟩
    refine lc_accL (accM l fun i => V.int ((2 : Int) ^ i)) (.inl (.inl ha)) (by rw [List.length_map]; exact Nat.le_trans hlen (by decide)) hD rfl (fun j x H5 hx5 s5 _ K1 K0 k1 k0 => ?_) fun H5 s5 e5 => ?_
    · obtain ⟨z, hz, rfl⟩ : ∃ z, l[j]? = some z ∧ V.int (z : Nat) = x := by rw [List.getElem?_map] at hx5; exact Option.map_eq_some_iff.mp hx5
      have := hx z (List.mem_of_getElem? hz)
      refine ⟨rfl, _, rfl, _, _, rfl, rfl, ⟨by omega, by omega, by decide⟩, k1 _ _ (Same.refl _) ?_⟩
      show _ = _ ++ [V.int (1 * 2 ^ ((z : Int)).toNat)]
      rw [Int.one_mul, Int.toNat_natCast]
      exact accM_succ (f := fun i => V.int ((2 : Int) ^ i)) hz
    · rw [accM_all (by rw [List.length_map])] at e5
      refine ⟨D, l.map fun i => (2 : Int) ^ i, rfl, .inl (.inl (by rw [e5, List.map_map]; rfl)), ?_⟩
      rw [mask_int]
      exact Qk H5 s5
/-- the places of a number's bits, below ten -/
def bits10 (m : Nat) : List Nat := (List.range 10).filter fun i => m.testBit i
theorem bit_truth (m i : Nat) : (Builtin.bitAnd ((m : Int) / 2 ^ i) 1 != 0) = m.testBit i := by
  have h1 : ((m : Int) / 2 ^ i) = ((m / 2 ^ i : Nat) : Int) := by push_cast; rfl
  rw [h1, bitAnd_pp (Int.natCast_nonneg _) (by decide), Int.toNat_natCast, Nat.testBit, Nat.shiftRight_eq_div_pow, Nat.and_comm]
  show (((1 &&& m / 2 ^ i : Nat) : Int) != 0) = (1 &&& m / 2 ^ i != 0)
  generalize (1 &&& m / 2 ^ i) = x
  cases x <;> rfl
def spIndexes (K : PySem.W.Frag) : Sp := fun vs H Q _ => ∃ (m : Nat), vs = [.int m] ∧ ∀ a H', H a = none → H' a = some (nO (bits10 m)) → Same H H' → Q (.ref a) H'
theorem sc_indexes_of : FnScope ["mask", "index"] ["mask"] (defScope s_indexes_of) := ⟨rfl, rfl, rfl, by decide +kernel, rfl, by decide +kernel, by decide +kernel⟩
theorem ok_indexes_of (c : Cy w K mg base) : Dn PG w K mg base "indexes_of" 1 ["mask"] (spIndexes K) := by
  obtain ⟨fd, F⟩ := c.fd_indexes_of
  obtain ⟨_, m_MOST_TRIED⟩ := c.i_MOST_TRIED
  refine ⟨walkD F sc_indexes_of (fun vs H Q E h => ?_) (fun cdv A outer s H vs Q E hr h => ?_) fun _ _ _ _ _ _ us hl => match us, hl with | [_], _ => rfl, c.m_indexes_of, F.kp⟩
  · obtain ⟨a, rfl, _⟩ := h
    rfl
  · obtain ⟨m, rfl, Qk⟩ := h
    refine ⟨_, (pss_one (ps_ret (pe_lc rfl sc_indexes_of.nd (pi_range1 (by rfl) c.f_range (pa_cons (pe_glob (v := .int 10) rfl m_MOST_TRIED ⟨_, rfl⟩) pa_nil)) (blkOk_by (own := [("index", 1)]) (by show blkC ["mask", "index"] (defScope s_indexes_of) _ _ = true; decide +kernel)) (fun _ _ _ _ _ => (pg_name (i := 1) sc_indexes_of.nd rfl (by first | exact Or.inl rfl | exact Or.inr rfl))) (fun _ _ _ _ _ => (pts_one (pt_truth_k (K0 := K) (by rfl) (pe_op op_and (pe_op op_shr (pv 0) (pv 1)) pe_int) (by intro _; rfl)))) (fun _ _ _ _ _ => (pv 1))))), ?_⟩
    refine ⟨10, rfl, by decide, by decide, fun D hD => ?_⟩
    refine lc_accR (lo := 0) (n := 10) (accF (List.range 10) (fun i => m.testBit i) fun i => V.int i) (by decide) hD rfl (fun j H4 hj s4 _ K1 K0 k1 k0 => ?_) fun H4 s4 e4 => ?_
    · refine ⟨rfl, _, rfl, _, rfl, _, _, rfl, rfl, by omega, _, _, rfl, rfl, _, rfl, ?_⟩
      rw [Int.zero_add, Int.toNat_natCast]
      show if (Builtin.bitAnd ((m : Int) / 2 ^ j) 1 != 0) = true then _ else _
      rw [bit_truth]
      refine iteB (fun h => ?_) (fun h => ?_)
      · exact ⟨_, rfl, k1 _ _ (Same.refl _) (accF_yes (rangeget hj) h)⟩
      · exact k0 _ (Same.refl _) (accF_no (rangeget hj) h)
    · rw [accF_all (List.length_range).symm] at e4
      exact Qk D H4 hD e4 s4
/-- a dict from the first bows to the masks -/
structure MaskD (H : Hp) (d : Addr) (n : Nat) (f : Nat → List Nat) (kvs : List (Key × V)) (r : Nat → Addr) : Prop where
  at_ : H d = some (.dK kvs)
  sz : kvs.length ≤ n
  val : ∀ i, i < n → valV kvs (.inl (i : Int)) = some (.ref (r i)) ∧ H (r i) = some (nO (f i))
  inj : ∀ i j, i < n → j < n → r i = r j → i = j
theorem MaskD.same {H H' : Hp} {d : Addr} {n : Nat} {f : Nat → List Nat} {kvs : List (Key × V)} {r : Nat → Addr} (e : Same H H') (h : MaskD H d n f kvs r) : MaskD H' d n f kvs r :=
  ⟨e _ _ h.at_, h.sz, fun i hi => ⟨(h.val i hi).1, e _ _ (h.val i hi).2⟩, h.inj⟩
/-- the masks so far -/
def masksSo (L : List (List Nat)) (a : Nat) : List Nat := (L.filter fun s => s.head? == some a).map maskOf
theorem masksSo_snoc (L : List (List Nat)) (y : List Nat) (a : Nat) : masksSo (L ++ [y]) a = masksSo L a ++ (if y.head? == some a then [maskOf y] else []) := by
  unfold masksSo
  rw [List.filter_append, List.map_append]
  cases h : (y.head? == some a) with
  | true => simp [List.filter_cons, h]
  | false => simp [List.filter_cons, h]
def spMasks (K : PySem.W.Frag) : Sp := fun vs H Q _ => ∃ (p q : Addr) (bs : Bs) (k : Kd), vs = [.ref p, .ref q] ∧ RowAt K H p bs ∧ KindAt K H q k ∧ bs.length ≤ 10 ∧
  ∀ d H' kvs r, MaskD H' d bs.length (masksAt (gr bs.bows k) bs.length) kvs r → Same H H' → Q (.ref d) H'
theorem sc_layer_masks : FnScope ["row", "kind", "found", "some", "index"] ["row", "kind"] (defScope s_layer_masks) := ⟨rfl, rfl, rfl, by decide +kernel, rfl, by decide +kernel, by decide +kernel⟩
theorem ok_layer_masks (c : Cy w K mg base) : Dn PG w K mg base "layer_masks" 8 ["row", "kind"] (spMasks K) := by
  obtain ⟨fd, F⟩ := c.fd_layer_masks
  have D_all_layers := ok_all_layers c
  have D_mask_of := ok_mask_of c
  have D_Row___len__ := ok_Row_len c
  refine ⟨walkD F sc_layer_masks (fun vs H Q E h => ?_) (fun cdv A outer s H vs Q E hr h => ?_) fun _ _ _ _ _ _ us hl => match us, hl with | [_, _], _ => rfl, c.m_layer_masks, F.kp⟩
  · obtain ⟨a, b, x, y, rfl, _⟩ := h
    rfl
  · obtain ⟨p, q, bs, k, rfl, hR, hk, hlen, Qk⟩ := h
    have hu := hu_of hr
    have big : (1024 : Nat) * 2 ≤ sizeLine := by decide
    refine ⟨_, (pss_cons (ps_setDc (i := 2) rfl sc_layer_masks.nd rfl rfl (sw_dict rfl rfl rfl (by decide +kernel)) (pi_range1 (by rfl) c.f_range (pa_cons (pe_callB (Dm.len (K0 := K) (by rfl) D_Row___len__ (hr.mono (by decide))) (by rfl) c.f_len PySem.boot_len (pa_cons (pv 0) pa_nil)) pa_nil)) (blkOk_by (own := [("index", 4)]) (by show blkC ["row", "kind", "found", "some", "index"] (defScope s_layer_masks) _ _ = true; decide +kernel)) (fun _ _ _ _ _ => (pg_name (i := 4) sc_layer_masks.nd rfl (by first | exact Or.inl rfl | exact Or.inr rfl))) (fun _ _ _ _ _ => pts_nil) (fun _ _ _ _ _ => (pv 4)) (fun _ _ _ _ _ => (pe_lst pa_nil)))
      (pss_cons (ps_for PassesOwn.never rfl (pi_list_k (K0 := K) (by rfl) (D_all_layers.call (hr.mono (by decide)) rfl (pa_cons (pv 0) (pa_cons (pv 1) pa_nil)))) (pg_name (i := 3) sc_layer_masks.nd rfl (by first | exact Or.inl rfl | exact Or.inr rfl)) (pss_one (ps_if (pt_cmpR (op_neNil_k (K0 := K) (by rfl) hu) (pv 3) (pe_lst pa_nil) (nomark _)) (pss_one (ps_expr (pe_bm_k (K0 := K) (by rfl) PySem.F.plainAttrs_list PySem.F.slot_list_append PySem.F.type_list_append mt_append (pe_dget hu (pv 2) (pe_ix (ix_list_k (K0 := K) (by rfl)) (pv 3) pe_int (fun _ _ => rfl)) (fun _ _ => rfl)) (pa_cons (D_mask_of.call (hr.mono (by decide)) rfl (pa_cons (pv 3) pa_nil)) pa_nil)))) pss_nil)))
      (pss_one (ps_ret (pv 2))))), ?_⟩
    obtain ⟨dx, l, hp, hl⟩ := hR.ex
    refine ⟨_, rfl, p, dx, _, rfl, hp, p, bs, rfl, hR, bs.length, rfl, by omega, ?_⟩
    refine ⟨bs.length, rfl, by omega, by omega, fun D hD => ?_⟩
    -- the dict of empty lists
    refine ⟨fun i m H' => m = bs.length - i ∧ i ≤ bs.length ∧ Same H H' ∧ ∃ kvs r, MaskD H' D i (fun _ => []) kvs r ∧ ∀ j, j < i → H (r j) = none, ⟨bs.length, by omega, Nat.zero_le _, same_upd hD, [], fun _ => 0, ⟨upd_same, Nat.le_refl _, fun i hi => by omega, fun i j hi => by omega⟩, fun j hj => by omega⟩, ?_⟩
    rintro i m H' ⟨rfl, hi, sm, kvs, r, M, Mn⟩
    by_cases hlt : i < bs.length
    · refine .inr ⟨hlt, fun H2 => i + 1 ≤ bs.length ∧ Same H H2 ∧ ∃ kvs r, MaskD H2 D (i + 1) (fun _ => []) kvs r ∧ ∀ j, j < i + 1 → H (r j) = none, fun H2 h2 => ⟨bs.length - (i + 1), by omega, rfl, h2⟩, fun x H2 hx => ?_⟩
      obtain ⟨rfl, rfl⟩ := hx
      refine ⟨rfl, _, rfl, Nat.zero_le _, fun u hu => ⟨kvs, .inl (0 + (i : Int)), rfl, (same_upd hu) _ _ M.at_, by have := M.sz; omega, hlt, ?_, putK kvs (.inl (0 + (i : Int))) (.ref u), fun j => if j = i then u else r j, ⟨upd_same, by have := length_putK kvs (.inl (0 + (i : Int))) (.ref u); have := M.sz; omega, fun j hj => ?_, fun j j' hj hj' e => ?_⟩, fun j hj => ?_⟩⟩
      · intro b o hb
        rw [upd_ne (ne_of_none hb hD), upd_ne (ne_of_none (sm _ _ hb) hu)]
        exact sm _ _ hb
      · have nuD : u ≠ D := fun z => by rw [z, M.at_] at hu; cases hu
        rw [valV_put]
        by_cases e : j = i
        · subst e
          rw [if_pos (by rw [Int.zero_add]), if_pos rfl]
          exact ⟨rfl, by rw [upd_ne nuD, upd_same]; rfl⟩
        · rw [if_neg (by rw [Int.zero_add]; intro z; injection z with z; omega), if_neg e]
          obtain ⟨v1, v2⟩ := M.val j (by omega)
          refine ⟨v1, ?_⟩
          rw [upd_ne (ne_of v2 M.at_ (by intro z; cases z)), upd_ne (ne_of_none v2 hu)]
          exact v2
      · by_cases e1 : j = i
        · by_cases e2 : j' = i
          · omega
          · exfalso
            rw [if_pos e1, if_neg e2] at e
            have := (M.val j' (by omega)).2
            rw [← e, hu] at this
            cases this
        · by_cases e2 : j' = i
          · exfalso
            rw [if_neg e1, if_pos e2] at e
            have := (M.val j (by omega)).2
            rw [e, hu] at this
            cases this
          · rw [if_neg e1, if_neg e2] at e
            exact M.inj j j' (by omega) (by omega) e
      · show H (if j = i then u else r j) = none
        by_cases e1 : j = i
        · rw [if_pos e1]; exact sm.free hu
        · rw [if_neg e1]; exact Mn j (by omega)
    · have ei : i = bs.length := by omega
      subst ei
      refine .inl ⟨Nat.le_refl _, ?_⟩
      have hR2 := hR.same sm
      have hk2 := hk.same sm
      refine ⟨_, rfl, _, rfl, p, q, bs, k, rfl, hR2, hk2, hlen, fun a H3 ha s3 => ?_⟩
      obtain ⟨ps, h1, h2, h3, h4, h5⟩ := ha
      have M3 := M.same s3
      have lp := os_len h3
      have hL := allL_len (gr bs.bows k) bs.length
      have hL2 : (allL (gr bs.bows k) bs.length).length ≤ 1024 := Nat.le_trans hL (Nat.le_trans (Nat.pow_le_pow_right (by omega) hlen) (by decide))
      have naD : ∀ j, j < bs.length → a ≠ r j := fun j hj z => by have := (M.val j hj).2; rw [← z, h4] at this; cases this
      have npr : ∀ x ∈ ps, ∀ j, j < bs.length → x.1 ≠ r j := fun x hx j hj z => by have := (M.val j hj).2; rw [← z, h5 x hx] at this; cases this
      have nDr : ∀ j, j < bs.length → D ≠ r j := fun j hj => ne_of M.at_ (M.val j hj).2 (by intro z; cases z)
      have npD : ∀ x ∈ ps, x.1 ≠ D := fun x hx z => by have := h5 x hx; rw [z, M.at_] at this; cases this
      have hrH : ∀ j, j < bs.length → ∀ b o, H b = some o → b ≠ r j := fun j hj b o hb z => by
        rw [z, Mn j hj] at hb
        cases hb
      refine ⟨a, rfl, ⟨_, .inl (.inl h1)⟩, for_list (K := K) (a := a) (xs := ps.vs) (fun i σ H' => (∃ x3 x4, σ = [some (.ref p), some (.ref q), some (.ref D), x3, x4]) ∧ (∀ b o, H3 b = some o → (∀ j, j < bs.length → b ≠ r j) → H' b = some o) ∧ MaskD H' D bs.length (masksSo ((allL (gr bs.bows k) bs.length).take i)) kvs r)
        ⟨⟨_, _, rfl⟩, fun b o e _ => e, M3⟩ (fun i σ H' _ ⟨_, kp, _⟩ => .inl (.inl (kp _ _ h1 naD))) ?_ ?_⟩
      · rintro i x σ H' hx ⟨⟨x3, x4, rfl⟩, kp, M'⟩
        have hil : i < ps.length := by have := (List.getElem?_eq_some_iff.mp hx).1; rwa [List.length_map] at this
        obtain ⟨pp, y, hpp, hy, rfl, ey⟩ := os_get h3 hx
        have ho : H' pp.1 = some (nO y) := by rw [kp _ _ (h2 pp hpp) (npr pp hpp), ey]
        have ly := mem_allL.mp (List.mem_of_getElem? hy)
        have yl : y.length ≤ 10 := by
          have := lay_cnt ly
          have h2 := cnt_le (fun x => y.contains x) bs.length
          omega
        have et : ∀ b, masksSo ((allL (gr bs.bows k) bs.length).take (i + 1)) b = masksSo ((allL (gr bs.bows k) bs.length).take i) b ++ (if y.head? == some b then [maskOf y] else []) := fun b => by
          rw [List.take_add_one, hy]
          exact masksSo_snoc _ _ _
        refine ⟨_, rfl, Nat.zero_le _, fun u hu => ⟨pp.1, u, nv y, rfl, rfl, .inl (.inl ((same_upd hu) _ _ ho)), .inl (.inl upd_same), _, rfl, ?_⟩⟩
        have su : Same H' (upd H' u (.lst [])) := same_upd hu
        have Mu := M'.same su
        generalize upd H' u (.lst []) = Hu at su Mu
        have kpu : ∀ b o, H3 b = some o → (∀ j, j < bs.length → b ≠ r j) → Hu b = some o := fun b o e hb => su _ _ (kp b o e hb)
        cases y with
        | nil =>
          refine iteF ?_
          refine ⟨⟨_, _, rfl⟩, kpu, Mu.at_, Mu.sz, fun j hj => ?_, Mu.inj⟩
          rw [et j]
          have := Mu.val j hj
          simpa using this
        | cons z y' =>
          refine iteT ?_
          have zn : z < bs.length := ly.2 z (by simp)
          obtain ⟨v1, v2⟩ := Mu.val z zn
          refine ⟨_, rfl, _, rfl, pp.1, _, 0, _, rfl, rfl, .inl (.inl (su _ _ ho)), atI_nat (j := 0) rfl, D, .ref (r z), rfl, ?_, ?_⟩
          · have g := DGet.k (k := .inl (z : Int)) Mu.at_
            rw [v1] at g
            exact g
          · refine ⟨.inl ⟨rfl, _, .inl (.inl v2)⟩, ?_⟩
            refine ⟨_, rfl, pp.1, z :: y', rfl, su _ _ ho, by omega, fun x hx => by have := ly.2 x hx; omega, fun H4 s4 => ?_⟩
            have M4 := Mu.same s4
            have w2 := (M4.val z zn).2
            have ml : (masksSo ((allL (gr bs.bows k) bs.length).take i) z).length ≤ 1024 := by
              unfold masksSo
              rw [List.length_map]
              exact Nat.le_trans (List.length_filter_le _ _) (by rw [List.length_take]; omega)
            refine ⟨r z, _, _, rfl, rfl, w2, by rw [List.length_map]; omega, ?_⟩
            refine ⟨⟨_, _, rfl⟩, fun b o e hb => ?_, ?_, M4.sz, fun j hj => ?_, M4.inj⟩
            · rw [upd_ne (hb z zn)]
              exact s4 _ _ (kpu b o e hb)
            · rw [upd_ne (nDr z zn)]
              exact M4.at_
            · rw [et j]
              obtain ⟨t1, t2⟩ := M4.val j hj
              refine ⟨t1, ?_⟩
              by_cases e : j = z
              · subst e
                rw [upd_same]
                unfold nO nv
                simp
              · rw [upd_ne (fun h => e (M4.inj j z hj zn h)), t2]
                have : ((z :: y').head? == some j) = false := by simp; exact fun h => e h.symm
                rw [this]
                simp
      · rintro σ H' ⟨⟨x3, x4, rfl⟩, kp, M'⟩
        rw [List.length_map, lp, List.take_length] at M'
        exact ⟨_, rfl, Qk D H' kvs r M' fun b o hb => kp b o (s3 _ _ (sm _ _ hb)) fun j hj => hrH j hj b o hb⟩
end
end Bw
end
section
set_option Elab.async false
set_option linter.all false
set_option maxRecDepth 100000
set_option maxHeartbeats 4000000
namespace Bw
open PySem PySem.Spec PyProof.Rows L2
section
variable {w : World} {K : PySem.W.Frag} {mg : Str → Option Value} {base : Heap}
/-- the table of the least numbers of layers -/
def TabAt (H : Hp) (a : Addr) (G : Nat → Nat → Bool) (n N : Nat) : Prop := ∃ rs : List Addr, H a = some (.lst (rs.map V.ref)) ∧ rs.length = N ∧ ∀ (m : Nat) t, rs[m]? = some t → ∃ x o : Nat, H t = some (.tup [.int x, .int o]) ∧ IsChi G n (fun i => m.testBit i) x
theorem TabAt.same {H H' : Hp} {a : Addr} {G : Nat → Nat → Bool} {n N : Nat} (e : Same H H') (h : TabAt H a G n N) : TabAt H' a G n N := by
  obtain ⟨rs, h1, h2, h3⟩ := h
  exact ⟨rs, e _ _ h1, h2, fun m t ht => by obtain ⟨x, o, a, b⟩ := h3 m t ht; exact ⟨x, o, e _ _ a, b⟩⟩
theorem gr_sym {bs : List Bow} {k : Kd} (hg : ∀ b ∈ bs, b.1 < b.2) (i j : Nat) : gr bs k i j = gr bs k j i := by
  have hd : ∀ i, (bs.getD i (0, 1)).1 < (bs.getD i (0, 1)).2 := fun i => by
    rw [List.getD_eq_getElem?_getD]
    cases h : bs[i]? with
    | none => decide
    | some b => exact hg b (List.mem_of_getElem? h)
  unfold gr
  rw [wayOf_comm (hd i) (hd j), show decide (i ≠ j) = decide (j ≠ i) from decide_eq_decide.mpr ⟨Ne.symm, Ne.symm⟩]
theorem RowAt.good {K : PySem.W.Frag} {H : Hp} {p : Addr} {bs : Bs} (h : RowAt K H p bs) : ∀ b ∈ bs.bows, b.1 < b.2 := fun b hb => by
  obtain ⟨x, hx, rfl⟩ := List.mem_map.mp hb
  exact (h.ok x hx).2.2.2
theorem and_int (o m : Nat) : Builtin.bitAnd (o : Int) (m : Int) = ((o &&& m : Nat) : Int) := by
  rw [bitAnd_pp (Int.natCast_nonneg _) (Int.natCast_nonneg _), Int.toNat_natCast, Int.toNat_natCast]
theorem zip_memG {α : Type} {f : α → HO} : ∀ {qs : Os} {L : List α}, qs.map (·.2) = L.map f → ∀ t ∈ qs.zip L, t.1 ∈ qs ∧ t.2 ∈ L ∧ t.1.2 = f t.2
  | [], _, _, t, ht => by simp at ht
  | q :: qs, [], h, t, ht => by simp at ht
  | q :: qs, l :: L, h, t, ht => by
    rw [List.map_cons, List.map_cons] at h
    injection h with h1 h2
    rw [List.zip_cons_cons] at ht
    rcases List.mem_cons.mp ht with e | ht
    · subst e; exact ⟨by simp, by simp, h1⟩
    · obtain ⟨a, b, d⟩ := zip_memG h2 t ht
      exact ⟨List.mem_cons_of_mem _ a, List.mem_cons_of_mem _ b, d⟩
theorem depth_pr : ∀ l : List (Int × Int), PyData.depthAll (l.map pr) ≤ 2
  | [] => by decide
  | a :: l => by
    rw [List.map_cons, PyData.depthAll]
    refine Nat.max_le.mpr ⟨?_, depth_pr l⟩
    simp [pr, PyData.depth, PyData.depthAll]
theorem alike_prs (l : List (Int × Int)) : PySem.W.AlikeAll (l.map pr) := by
  refine ⟨fun x hx y hy => ?_, fun x hx e => ?_⟩
  · obtain ⟨a, _, rfl⟩ := List.mem_map.mp hx
    obtain ⟨b, _, rfl⟩ := List.mem_map.mp hy
    simp [pr, PySem.W.alike, PySem.W.alikeAll]
  · obtain ⟨a, _, rfl⟩ := List.mem_map.mp hx
    cases e
def spTable (K : PySem.W.Frag) : Sp := fun vs H Q _ => ∃ (p q : Addr) (bs : Bs) (k : Kd), vs = [.ref p, .ref q] ∧ RowAt K H p bs ∧ KindAt K H q k ∧ bs.length ≤ 10 ∧
  ∀ a H', TabAt H' a (gr bs.bows k) bs.length (2 ^ bs.length) → Same H H' → Q (.ref a) H'
theorem sc_fewest_table : FnScope ["row", "kind", "masks", "found", "mask", "least", "some", "one"] ["row", "kind"] (defScope s_fewest_table) := ⟨rfl, rfl, rfl, by decide +kernel, rfl, by decide +kernel, by decide +kernel⟩
theorem ok_fewest_table (c : Cy w K mg base) : Dn PG w K mg base "fewest_table" 9 ["row", "kind"] (spTable K) := by
  obtain ⟨fd, F⟩ := c.fd_fewest_table
  have D_layer_masks := ok_layer_masks c
  have D_indexes_of := ok_indexes_of c
  have D_Row___len__ := ok_Row_len c
  refine ⟨walkD F sc_fewest_table (fun vs H Q E h => ?_) (fun cdv A outer s H vs Q E hr h => ?_) fun _ _ _ _ _ _ us hl => match us, hl with | [_, _], _ => rfl, c.m_fewest_table, F.kp⟩
  · obtain ⟨a, b, x, y, rfl, _⟩ := h
    rfl
  · obtain ⟨p, q, bs, k, rfl, hR, hk, hlen, Qk⟩ := h
    have hu := hu_of hr
    have big : (1024 : Nat) * 2 ≤ sizeLine := by decide
    have hsym := gr_sym (k := k) hR.good
    have p2 : 2 ^ bs.length ≤ 1024 := Nat.le_trans (Nat.pow_le_pow_right (by omega) hlen) (by decide)
    have p1 : 1 ≤ 2 ^ bs.length := Nat.one_le_two_pow
    refine ⟨_, (pss_cons (ps_asg (pe_tup (pa_cons (D_layer_masks.call (hr.mono (by decide)) rfl (pa_cons (pv 0) (pa_cons (pv 1) pa_nil))) (pa_cons (pe_lst (pa_cons (pe_tup (pa_cons pe_int (pa_cons pe_int pa_nil))) pa_nil)) pa_nil))) (pg_tup_k (K0 := K) (by rfl) (by rfl) (pgs_cons (pg_name (i := 2) sc_fewest_table.nd rfl (by first | exact Or.inl rfl | exact Or.inr rfl)) (pgs_cons (pg_name (i := 3) sc_fewest_table.nd rfl (by first | exact Or.inl rfl | exact Or.inr rfl)) pgs_nil))))
      (pss_cons (ps_for PassesOwn.never rfl (pi_range2 (by rfl) c.f_range (pa_cons pe_int (pa_cons (pe_op op_shl pe_int (pe_callB (Dm.len (K0 := K) (by rfl) D_Row___len__ (hr.mono (by decide))) (by rfl) c.f_len PySem.boot_len (pa_cons (pv 0) pa_nil))) pa_nil))) (pg_name (i := 4) sc_fewest_table.nd rfl (by first | exact Or.inl rfl | exact Or.inr rfl)) (pss_cons (ps_set (i := 5) sc_fewest_table.nd rfl (by first | exact Or.inl rfl | exact Or.inr rfl) (pe_ix (ix_list_k (K0 := K) (by rfl)) (D_indexes_of.call (hr.mono (by decide)) rfl (pa_cons (pv 4) pa_nil)) pe_int (fun _ _ => rfl)))
      (pss_cons (ps_setLc (i := 6) rfl sc_fewest_table.nd rfl rfl (sw_true rfl rfl rfl (by decide +kernel)) (pi_list_k (K0 := K) (by rfl) (pe_dget hu (pv 2) (pv 5) (fun _ _ => rfl))) (blkOk_by (own := [("one", 7)]) (by show blkC ["row", "kind", "masks", "found", "mask", "least", "some", "one"] (defScope s_fewest_table) _ _ = true; decide +kernel)) (fun _ _ _ _ _ => (pg_name (i := 7) sc_fewest_table.nd rfl (by first | exact Or.inl rfl | exact Or.inr rfl))) (fun _ _ _ _ _ => (pts_one (pt_cmpR op_eq (pe_op op_and (pv 7) (pv 4)) (pv 7) (nomark _)))) (fun _ _ _ _ _ => (pe_tup (pa_cons (pe_op op_add (pe_ix (ix_tup_k (K0 := K) (by rfl)) (pe_ix (ix_list_k (K0 := K) (by rfl)) (pv 3) (pe_op op_sub (pv 4) (pv 7)) (fun _ _ => rfl)) pe_int (fun _ _ => rfl)) pe_int) (pa_cons (pv 7) pa_nil)))))
      (pss_one (ps_expr (pe_bm_k (K0 := K) (by rfl) PySem.F.plainAttrs_list PySem.F.slot_list_append PySem.F.type_list_append mt_append (pv 3) (pa_cons (pe_callB (cr_minG_k (K0 := K) (by rfl) rfl (hu64 hr)) (by rfl) c.f_min (by decide +kernel) (pa_cons (pv 6) pa_nil)) pa_nil)))))))
      (pss_one (ps_ret (pv 3))))), ?_⟩
    refine ⟨_, rfl, _, rfl, p, q, bs, k, rfl, hR, hk, by omega, fun D H1 kvs r M s1 => ?_⟩
    refine ⟨by show 2 ≤ sizeLine; decide, fun t0 ht0 => ⟨by show 1 ≤ sizeLine; decide, fun F hF => ⟨by show 2 ≤ sizeLine; decide, fun t ht => ⟨t, _, rfl, .inl (.inl upd_same), rfl, ?_⟩⟩⟩⟩
    have nt0F : t0 ≠ F := ne_of_none (upd_same (H := H1)) hF
    have nFt : F ≠ t := ne_of_none (upd_same (H := upd H1 t0 (.tup [V.int 0, V.int 0]))) ht
    have nt0t : t0 ≠ t := fun z => by rw [← z, upd_ne nt0F, upd_same] at ht; cases ht
    have hF1 : H1 F = none := by
      cases z : H1 F with
      | none => rfl
      | some o => rw [upd_ne nt0F.symm, z] at hF; cases hF
    have sF : Same H1 (upd (upd (upd H1 t0 (.tup [V.int 0, V.int 0])) F (.lst [V.ref t0])) t (.tup [V.ref D, V.ref F])) := ((same_upd ht0).trans (same_upd hF)).trans (same_upd ht)
    generalize hH2 : upd (upd (upd H1 t0 (.tup [V.int 0, V.int 0])) F (.lst [V.ref t0])) t (.tup [V.ref D, V.ref F]) = H2 at sF ⊢
    have i1 : H2 F = some (.lst [V.ref t0]) := by rw [← hH2, upd_ne nFt, upd_same]
    have i2 : H2 t0 = some (.tup [V.int 0, V.int 0]) := by rw [← hH2, upd_ne nt0t, upd_ne nt0F, upd_same]
    have s2 := s1.trans sF
    refine ⟨_, _, rfl, _, _, rfl, rfl, ?_⟩
    obtain ⟨dx, l, hp, hl⟩ := (hR.same s2).ex
    refine ⟨_, rfl, p, dx, _, rfl, hp, p, bs, rfl, hR.same s2, bs.length, rfl, by omega, ?_⟩
    have e2n : (1 : Int) * 2 ^ ((bs.length : Nat) : Int).toNat = ((2 ^ bs.length : Nat) : Int) := by rw [Int.toNat_natCast, Int.one_mul]; push_cast; rfl
    refine ⟨_, _, rfl, rfl, ⟨by omega, by omega, by decide⟩, ?_⟩
    refine ⟨1, ((2 ^ bs.length : Nat) : Int), by show [V.int 1, V.int (1 * 2 ^ ((bs.length : Nat) : Int).toNat)] = _; rw [e2n], ⟨by omega, by omega, by omega, by omega⟩, ?_⟩
    have en : (((2 ^ bs.length : Nat) : Int) - 1).toNat = 2 ^ bs.length - 1 := by omega
    rw [en]
    refine for_range (lo := 1) (n := 2 ^ bs.length - 1) (fun i σ H' => (∃ x4 x5 x6 x7, σ = [some (.ref p), some (.ref q), some (.ref D), some (.ref F), x4, x5, x6, x7]) ∧ Same H1 H' ∧ TabAt H' F (gr bs.bows k) bs.length (i + 1))
      ⟨⟨_, _, _, _, rfl⟩, sF, [t0], i1, rfl, fun m t ht => ?_⟩ ?_ ?_
    · cases m with
      | zero =>
        have : t0 = t := Option.some.inj ht
        subst this
        exact ⟨0, 0, i2, isChi_zero _ _⟩
      | succ m => simp at ht
    · rintro i σ H' hi ⟨⟨x4, x5, x6, x7, rfl⟩, sm, rs, f1, f2, f3⟩
      have hm : 1 + i < 2 ^ bs.length := by omega
      obtain ⟨a, tl, ea, ha, hlow⟩ := first_bit hm hlen (by omega : 0 < 1 + i)
      have an : a < bs.length := bit_lt hm ha
      -- least
      refine ⟨_, rfl, 1 + i, rfl, fun B H3 hB0 hB s3 => ⟨B, _, 0, _, rfl, rfl, .inl (.inl hB), atI_nat (j := 0) (by unfold bits10; rw [ea]; rfl), ?_⟩⟩
      have M3 := M.same (sm.trans s3)
      obtain ⟨v1, v2⟩ := M3.val a an
      -- the masks
      refine ⟨_, rfl, _, rfl, D, .ref (r a), rfl, ?_, r a, rfl, ⟨_, .inl (.inl v2)⟩, fun L hL => ?_⟩
      · have g := DGet.k (k := .inl (a : Int)) M3.at_
        rw [v1] at g
        exact g
      obtain ⟨v, hv⟩ : ∃ v : Nat → Nat, ∀ o, o < 1 + i → IsChi (gr bs.bows k) bs.length (fun j => o.testBit j) (v o) ∧ ∃ t x, rs[o]? = some t ∧ H' t = some (.tup [.int (v o), .int (x : Nat)]) := by
        have : ∀ o, ∃ x, o < 1 + i → IsChi (gr bs.bows k) bs.length (fun j => o.testBit j) x ∧ ∃ t y, rs[o]? = some t ∧ H' t = some (.tup [.int (x : Nat), .int (y : Nat)]) := fun o => by
          by_cases ho : o < 1 + i
          · have ho2 : o < rs.length := by omega
            obtain ⟨x, y, g1, g2⟩ := f3 o _ (List.getElem?_eq_getElem ho2)
            exact ⟨x, fun _ => ⟨g2, _, y, List.getElem?_eq_getElem ho2, g1⟩⟩
          · exact ⟨0, fun h => absurd h ho⟩
        exact ⟨fun o => (this o).choose, fun o ho => (this o).choose_spec ho⟩
      have ml : (masksAt (gr bs.bows k) bs.length a).length ≤ 1024 := by
        unfold masksAt
        rw [List.length_map]
        exact Nat.le_trans (List.length_filter_le _ _) (Nat.le_trans (allL_len _ _) p2)
      have hc0 : ∀ o, o &&& (1 + i) = o → o ∈ masksAt (gr bs.bows k) bs.length a → 0 < o ∧ o ≤ 1 + i := fun o h1 h2 => by
        have := cands_sound hsym ha hlow hm (List.mem_filter.mpr ⟨h2, decide_eq_true h1⟩)
        exact ⟨this.1, this.2.1⟩
      refine lc_objL (fun r => r ≠ L) (fun _ h => h) (accOF (masksAt (gr bs.bows k) bs.length a) (fun o => decide (o &&& (1 + i) = o)) fun o => .tup [.int ((v (1 + i - o) + 1 : Nat) : Int), .int (o : Nat)]) (.inl (.inl v2)) (by rw [List.length_map]; omega) hL rfl (fun j x H4 hx s4 hLL K1 K0 k1 k0 => ?_) fun H4 qs s4 e1 e2 e3 _ => ?_
      · obtain ⟨z, hz, rfl⟩ : ∃ z, (masksAt (gr bs.bows k) bs.length a)[j]? = some z ∧ V.int (z : Nat) = x := by rw [List.getElem?_map] at hx; exact Option.map_eq_some_iff.mp hx
        have hzm := List.mem_of_getElem? hz
        refine ⟨rfl, _, rfl, _, rfl, _, _, rfl, rfl, _, rfl, rfl, _, rfl, ?_⟩
        have ez : Builtin.bitAnd ((z : Nat) : Int) (1 + (i : Nat)) = ((z &&& (1 + i) : Nat) : Int) := and_int z (1 + i)
        show if decide (V.int (Builtin.bitAnd ((z : Nat) : Int) (1 + (i : Nat))) = V.int (z : Nat)) = true then _ else _
        rw [ez]
        refine iteI (fun h => ?_) (fun h => ?_)
        · have h' : z &&& (1 + i) = z := by omega
          obtain ⟨z0, z1⟩ := hc0 z h' hzm
          obtain ⟨w1, t, x, w2, w3⟩ := hv (1 + i - z) (by omega)
          have s34 := s3.trans s4
          refine ⟨_, rfl, _, rfl, _, rfl, _, _, rfl, rfl, F, _, ((1 + i - z : Nat) : Int), _, rfl, ?_, .inl (.inl (s34 _ _ f1)), atI_nat (by rw [List.getElem?_map, w2]; rfl), ?_⟩
          · show V.int ((1 + (i : Int)) - (z : Int)) = V.int _
            congr 1
            omega
          · refine ⟨t, _, 0, _, rfl, rfl, .inl (.inl (s34 _ _ w3)), atI_nat (j := 0) rfl, _, _, rfl, rfl, _, rfl, by show 2 ≤ sizeLine; decide, fun u hu => ?_⟩
            obtain ⟨ys, hy⟩ := hLL
            refine k1 u _ _ (same_upd hu) (fun h => by rw [h, hy] at hu; cases hu) upd_same ?_
            have := accOF_yes (p := fun o => decide (o &&& (1 + i) = o)) (f := fun o => HO.tup [.int ((v (1 + i - o) + 1 : Nat) : Int), .int (o : Nat)]) hz (decide_eq_true h')
            rw [this]
            push_cast
            rfl
        · exact k0 _ (Same.refl _) (accOF_no hz (decide_eq_false fun h' => h (by omega)))
      · rw [accOF_all (by rw [List.length_map])] at e2
        have e2' : qs.map (·.2) = (cands (gr bs.bows k) bs.length a (1 + i)).map fun o => HO.tup [.int ((v (1 + i - o) + 1 : Nat) : Int), .int (o : Nat)] := e2
        have hne := cands_ne (G := gr bs.bows k) ha hlow hm
        have lq := os_len e2'
        have zm := zip_memG e2'
        have zs := zip_snd lq
        have zf := zip_fst lq
        generalize hZ : qs.zip (cands (gr bs.bows k) bs.length a (1 + i)) = Z at zm zs zf
        have s34 := s3.trans s4
        cases Z with
        | nil => exact absurd zs.symm hne
        | cons t0 ts =>
          let g : (Addr × HO) × Nat → Int × Int := fun t => (((v (1 + i - t.2) + 1 : Nat) : Int), (t.2 : Int))
          let f : (Addr × HO) × Nat → V × PyData := fun t => (V.ref t.1.1, pr (g t))
          have ef : ((f t0 :: ts.map f).map (·.2)) = (g t0 :: ts.map g).map pr := by rw [List.map_cons, List.map_cons, List.map_map, List.map_map]; rfl
          refine ⟨_, rfl, .inl ⟨rfl, _, .inl (.inl (s34 _ _ f1))⟩, _, rfl, L, f t0, ts.map f, rfl, .inl (.inl ?_), fun x hx => ?_, ?_, ?_, fun x hx ex => ?_⟩
          · rw [e1]
            unfold Os.vs
            rw [← zf, ← List.map_cons, List.map_map, List.map_map]
            rfl
          · rw [← List.map_cons] at hx
            obtain ⟨t, ht, rfl⟩ := List.mem_map.mp hx
            obtain ⟨m1, m2, m3⟩ := zm t ht
            exact .tup (.inl (.inl (by rw [e3 _ m1, m3]))) (.cons (.int _) (.cons (.int _) .nil))
          · rw [ef]; exact alike_prs _
          · rw [ef]; exact Nat.le_trans (depth_pr _) (by decide)
          · obtain ⟨mm, mm1, mm2, mm3⟩ := minD_pairs (ts.map g) (g t0)
            have em : PySem.W.minD (f t0).2 ((ts.map f).map (·.2)) = pr mm := by
              rw [← mm2, List.map_map, List.map_map]
              rfl
            rw [em] at ex
            rw [← List.map_cons] at hx
            obtain ⟨t, ht, rfl⟩ := List.mem_map.mp hx
            have eg : g t = mm := pr_inj ex
            obtain ⟨m1, m2, m3⟩ := zm t ht
            have ho : H4 t.1.1 = some (.tup [.int ((v (1 + i - t.2) + 1 : Nat) : Int), .int (t.2 : Nat)]) := by rw [e3 _ m1, m3]
            have s5 : ∀ b o, H' b = some o → b ≠ F → upd H4 F (.lst (rs.map V.ref ++ [V.ref t.1.1])) b = some o := fun b o e hb => by rw [upd_ne hb]; exact s34 _ _ e
            refine ⟨F, _, _, rfl, rfl, s34 _ _ f1, by rw [List.length_map]; omega, ⟨_, _, _, _, rfl⟩, fun b o e => s5 b o (sm _ _ e) (ne_of_none e hF1), rs ++ [t.1.1], by rw [upd_same, List.map_append]; rfl, by rw [List.length_append, f2]; rfl, fun m u hu => ?_⟩
            rw [List.getElem?_append] at hu
            split at hu
            · obtain ⟨x, o, g1, g2⟩ := f3 m u hu
              exact ⟨x, o, s5 _ _ g1 (ne_of g1 f1 (by intro z; cases z)), g2⟩
            · rename_i hmn
              have em2 : m = i + 1 := by
                have := (List.getElem?_eq_some_iff.mp hu).1
                simp at this
                omega
              subst em2
              rw [f2, Nat.sub_self] at hu
              have hu' : t.1.1 = u := Option.some.inj hu
              subst hu'
              refine ⟨v (1 + i - t.2) + 1, t.2, by rw [upd_ne (ne_of ho (s34 _ _ f1) (by intro z; cases z))]; exact ho, ?_⟩
              have st := step_chi hsym ha hlow hm (v := v) (fun o ho => (hv o ho).1) (r := v (1 + i - t.2) + 1) ⟨t.2, m2, rfl⟩ fun o ho => ?_
              · rw [Nat.add_comm i 1]; exact st
              · rw [← zs] at ho
                obtain ⟨t', ht', rfl⟩ := List.mem_map.mp ho
                have := mm3 (g t') (by rw [← List.map_cons]; exact List.mem_map.mpr ⟨t', ht', rfl⟩)
                rw [← eg] at this
                have h1 : ((v (1 + i - t.2) + 1 : Nat) : Int) ≤ ((v (1 + i - t'.2) + 1 : Nat) : Int) := this
                omega
    · rintro σ H' ⟨⟨x4, x5, x6, x7, rfl⟩, sm, T⟩
      have e : 2 ^ bs.length - 1 + 1 = 2 ^ bs.length := by omega
      rw [e] at T
      exact ⟨_, rfl, Qk F H' T (s1.trans sm)⟩
end
end Bw
end
section
set_option Elab.async false
set_option linter.all false
set_option maxRecDepth 100000
set_option maxHeartbeats 4000000
namespace Bw
open PySem PySem.Spec PyProof.Rows L2
theorem most_ge {G : Nat → Nat → Bool} {n k c : Nat} (h : IsMost G n k c) : k ≤ c ∨ c = n := by
  have h1 := h.2 (fun i => decide (i < k)) ⟨fun i => i, fun i _ e => of_decide_eq_true e, fun i j _ _ _ _ ne e => absurd e ne⟩
  have h2 := h.le
  by_cases q : k ≤ n
  · left
    have e : cnt (fun i => decide (i < k)) n = cnt (fun i => decide (i < k)) k := cnt_ext _ (fun i hi => decide_eq_false (by omega)) q
    have e2 : cnt (fun i => decide (i < k)) k = k := cnt_all fun i hi => decide_eq_true hi
    omega
  · right
    have e : cnt (fun i => decide (i < k)) n = n := cnt_all fun i hi => decide_eq_true (by omega)
    omega
theorem bits_cnt {m n : Nat} (hm : m < 2 ^ n) (hn : n ≤ 10) : (bits10 m).length = cnt (fun i => m.testBit i) n := by
  unfold bits10
  rw [cnt_filter]
  exact cnt_ext _ (fun i hi => Nat.testBit_lt_two_pow (Nat.lt_of_lt_of_le hm (Nat.pow_le_pow_right (by omega) hi))) hn
/-- the most that k layers hold, by the table -/
theorem most_of_table {G : Nat → Nat → Bool} {n k : Nat} {v : Nat → Nat} {c : Nat} (hv : ∀ m, m < 2 ^ n → IsChi G n (fun i => m.testBit i) (v m)) (h1 : ∃ m, m < 2 ^ n ∧ v m ≤ k ∧ cnt (fun i => m.testBit i) n = c)
    (h2 : ∀ m, m < 2 ^ n → v m ≤ k → cnt (fun i => m.testBit i) n ≤ c) : IsMost G n k c := by
  obtain ⟨m, hm, hk, e⟩ := h1
  refine ⟨⟨fun i => m.testBit i, (hv m hm k).mp hk, e⟩, fun S hS => ?_⟩
  obtain ⟨b1, b2⟩ := mask_of_set S n
  have e2 : cnt (fun i => (maskOf (listOf S n)).testBit i) n = cnt S n := cnt_congr fun i hi => by rw [b2, decide_eq_true hi, Bool.true_and]
  rw [← e2]
  refine h2 _ b1 ((hv _ b1 k).mpr ?_)
  exact hS.mono (Nat.le_refl _) fun i hi e => by rw [b2, decide_eq_true hi, Bool.true_and] at e; exact e
section
variable {w : World} {K : PySem.W.Frag} {mg : Str → Option Value} {base : Heap}
/-- a list of whole numbers -/
abbrev iO (l : List Int) : HO := .lst (l.map V.int)
def spLeft (K : PySem.W.Frag) : Sp := fun vs H Q _ => ∃ (p q : Addr) (bs : Bs) (k : Kd), vs = [.ref p, .ref q] ∧ RowAt K H p bs ∧ KindAt K H q k ∧ bs.length ≤ 10 ∧
  ∀ a H' xs, H' a = some (iO xs) → LeftOk (gr bs.bows k) bs.length xs → Same H H' → Q (.ref a) H'
theorem sc_left_values : FnScope ["row", "kind", "table", "found", "sizes", "mask"] ["row", "kind"] (defScope s_left_values) := ⟨rfl, rfl, rfl, by decide +kernel, rfl, by decide +kernel, by decide +kernel⟩
theorem ok_left_values (c : Cy w K mg base) : Dn PG w K mg base "left_values" 10 ["row", "kind"] (spLeft K) := by
  obtain ⟨fd, F⟩ := c.fd_left_values
  have D_fewest_table := ok_fewest_table c
  have D_indexes_of := ok_indexes_of c
  have D_Row___len__ := ok_Row_len c
  refine ⟨walkD F sc_left_values (fun vs H Q E h => ?_) (fun cdv A outer s H vs Q E hr h => ?_) fun _ _ _ _ _ _ us hl => match us, hl with | [_, _], _ => rfl, c.m_left_values, F.kp⟩
  · obtain ⟨a, b, x, y, rfl, _⟩ := h
    rfl
  · obtain ⟨p, q, bs, k, rfl, hR, hk, hlen, Qk⟩ := h
    have hu := hu_of hr
    have big : (1024 : Nat) * 2 ≤ sizeLine := by decide
    have p2 : 2 ^ bs.length ≤ 1024 := Nat.le_trans (Nat.pow_le_pow_right (by omega) hlen) (by decide)
    have p1 : 1 ≤ 2 ^ bs.length := Nat.one_le_two_pow
    refine ⟨_, (pss_cons (ps_set (i := 2) sc_left_values.nd rfl (by first | exact Or.inl rfl | exact Or.inr rfl) (D_fewest_table.call (hr.mono (by decide)) rfl (pa_cons (pv 0) (pa_cons (pv 1) pa_nil))))
      (pss_cons (ps_asg (pe_tup (pa_cons (pe_lst pa_nil) (pa_cons (pe_lc rfl sc_left_values.nd (pi_range1 (by rfl) c.f_range (pa_cons (pe_callB (call_len_seq_k (K0 := K) (by rfl)) (by rfl) c.f_len PySem.boot_len (pa_cons (pv 2) pa_nil)) pa_nil)) (blkOk_by (own := [("mask", 5)]) (by show blkC ["row", "kind", "table", "found", "sizes", "mask"] (defScope s_left_values) _ _ = true; decide +kernel)) (fun _ _ _ _ _ => (pg_name (i := 5) sc_left_values.nd rfl (by first | exact Or.inl rfl | exact Or.inr rfl))) (fun _ _ _ _ _ => pts_nil) (fun _ _ _ _ _ => (pe_callB (call_len_seq_k (K0 := K) (by rfl)) (by rfl) c.f_len PySem.boot_len (pa_cons (D_indexes_of.call (hr.mono (by decide)) rfl (pa_cons (pv 5) pa_nil)) pa_nil)))) pa_nil))) (pg_tup_k (K0 := K) (by rfl) (by rfl) (pgs_cons (pg_name (i := 3) sc_left_values.nd rfl (by first | exact Or.inl rfl | exact Or.inr rfl)) (pgs_cons (pg_name (i := 4) sc_left_values.nd rfl (by first | exact Or.inl rfl | exact Or.inr rfl)) pgs_nil))))
      (pss_cons (ps_while PassesOwn.never (PW.pt (pw_or (pt_cmpR (op_eqNil_k (K0 := K) (by rfl) hu) (pv 3) (pe_lst pa_nil) (nomark _)) (pw_or1 (pt_cmpR op_gt (pe_ix (ix_list_k (K0 := K) (by rfl)) (pv 3) (pe_un un_neg pe_int) (fun _ _ => rfl)) pe_int (nomark _))))) (pss_one (ps_expr (pe_bm_k (K0 := K) (by rfl) PySem.F.plainAttrs_list PySem.F.slot_list_append PySem.F.type_list_append mt_append (pv 3) (pa_cons (pe_op op_sub (pe_callB (Dm.len (K0 := K) (by rfl) D_Row___len__ (hr.mono (by decide))) (by rfl) c.f_len PySem.boot_len (pa_cons (pv 0) pa_nil)) (pe_callB (cr_max_k (K0 := K) (by rfl) rfl) (by rfl) c.f_max (by decide +kernel) (pa_cons (pe_lc rfl sc_left_values.nd (pi_range1 (by rfl) c.f_range (pa_cons (pe_callB (call_len_seq_k (K0 := K) (by rfl)) (by rfl) c.f_len PySem.boot_len (pa_cons (pv 2) pa_nil)) pa_nil)) (blkOk_by (own := [("mask", 5)]) (by show blkC ["row", "kind", "table", "found", "sizes", "mask"] (defScope s_left_values) _ _ = true; decide +kernel)) (fun _ _ _ _ _ => (pg_name (i := 5) sc_left_values.nd rfl (by first | exact Or.inl rfl | exact Or.inr rfl))) (fun _ _ _ _ _ => (pts_one (pt_cmpR op_le (pe_ix (ix_tup_k (K0 := K) (by rfl)) (pe_ix (ix_list_k (K0 := K) (by rfl)) (pv 2) (pv 5) (fun _ _ => rfl)) pe_int (fun _ _ => rfl)) (pe_callB (call_len_seq_k (K0 := K) (by rfl)) (by rfl) c.f_len PySem.boot_len (pa_cons (pv 3) pa_nil)) (nomark _)))) (fun _ _ _ _ _ => (pe_ix (ix_list_k (K0 := K) (by rfl)) (pv 4) (pv 5) (fun _ _ => rfl)))) pa_nil))) pa_nil)))))
      (pss_one (ps_ret (pv 3)))))), ?_⟩
    refine ⟨_, rfl, _, rfl, p, q, bs, k, rfl, hR, hk, hlen, fun a H1 T s1 => ?_⟩
    generalize hG : gr bs.bows k = G at T Qk
    generalize hn : bs.length = n at T Qk hlen p1 p2
    obtain ⟨rs, t1, t2, t3⟩ := id T
    obtain ⟨v, hv⟩ : ∃ v : Nat → Nat, ∀ m, m < 2 ^ n → IsChi G n (fun j => m.testBit j) (v m) ∧ ∃ t x, rs[m]? = some t ∧ H1 t = some (.tup [.int (v m), .int (x : Nat)]) := by
      have : ∀ m, ∃ x, m < 2 ^ n → IsChi G n (fun j => m.testBit j) x ∧ ∃ t y, rs[m]? = some t ∧ H1 t = some (.tup [.int (x : Nat), .int (y : Nat)]) := fun m => by
        by_cases ho : m < 2 ^ n
        · have ho2 : m < rs.length := by omega
          obtain ⟨x, y, g1, g2⟩ := t3 m _ (List.getElem?_eq_getElem ho2)
          exact ⟨x, fun _ => ⟨g2, _, y, List.getElem?_eq_getElem ho2, g1⟩⟩
        · exact ⟨0, fun h => absurd h ho⟩
      exact ⟨fun o => (this o).choose, fun o ho => (this o).choose_spec ho⟩
    refine ⟨Nat.zero_le _, fun F hF => ?_⟩
    have s2 : Same H1 (upd H1 F (.lst [])) := same_upd hF
    refine ⟨_, rfl, a, _, rfl, .inl (.inl (.inl (s2 _ _ t1))), ((2 ^ n : Nat) : Int), by rw [List.length_map, t2], by omega, by omega, fun D hD => ?_⟩
    rw [Int.toNat_natCast]
    refine lc_accR (lo := 0) (n := 2 ^ n) (accM (List.range (2 ^ n)) fun m => V.int ((bits10 m).length : Nat)) (by omega) hD rfl (fun m H3 hm s3 _ K1 K0 k1 k0 => ?_) fun H3 s3 e3 => ?_
    · refine ⟨rfl, _, rfl, m, by rw [Int.zero_add]; rfl, fun B H4 hB0 hB s4 => ⟨B, _, rfl, .inl (.inl (.inl hB)), ?_⟩⟩
      rw [List.length_map]
      exact k1 _ _ s4 (accM_succ (f := fun m => V.int ((bits10 m).length : Nat)) (rangeget hm))
    rw [accM_all (List.length_range).symm] at e3
    have nDF : D ≠ F := fun z => by rw [z, upd_same] at hD; cases hD
    have i1 : H3 F = some (.lst []) := s3 _ _ upd_same
    refine ⟨by show 2 ≤ sizeLine; decide, fun t ht => ⟨t, _, rfl, .inl (.inl upd_same), rfl, _, _, rfl, _, _, rfl, rfl, ?_⟩⟩
    have s4 : Same H3 (upd H3 t (.tup [V.ref F, V.ref D])) := same_upd ht
    generalize upd H3 t (.tup [V.ref F, V.ref D]) = H4 at s4 ⊢
    -- the loop
    let Iv : List Int → L2.St → Hp → Prop := fun xs σ H' => (∃ x5, σ = [some (.ref p), some (.ref q), some (.ref a), some (.ref F), some (.ref D), x5]) ∧ Same H1 H' ∧ H' D = some (.lst ((List.range (2 ^ n)).map fun m => V.int ((bits10 m).length : Nat))) ∧ H' F = some (iO xs) ∧ xs.length ≤ n + 1 ∧
      (∀ j, j < xs.length → ∃ c, IsMost G n j c ∧ xs[j]? = some ((n : Int) - (c : Int)) ∧ (j + 1 < xs.length → c < n))
    refine ⟨fun m σ H' => ∃ xs, m = n + 1 - xs.length ∧ Iv xs σ H', ⟨_, [], rfl, ⟨_, rfl⟩, s2.trans (s3.trans s4), s4 _ _ e3, s4 _ _ i1, Nat.zero_le _, fun j hj => absurd hj (Nat.not_lt_zero _)⟩, ?_⟩
    rintro m σ H' ⟨xs, rfl, ⟨x5, rfl⟩, sm, hD', hF', hlx, hx⟩
    have hR' := hR.same (s1.trans sm)
    obtain ⟨dx, l, hp, hl⟩ := hR'.ex
    refine ⟨_, rfl, Nat.zero_le _, fun u hu' => ⟨F, u, _, rfl, rfl, .inl (.inl ((same_upd hu') _ _ hF')), .inl (.inl upd_same), _, rfl, ?_⟩⟩
    have su : Same H' (upd H' u (.lst [])) := same_upd hu'
    generalize upd H' u (.lst []) = Hu at su ⊢
    by_cases hx0 : xs = []
    · subst hx0
      have hxl : ([] : List Int).length ≤ n := Nat.zero_le _
      have hxc : ∀ j, j < ([] : List Int).length → ∃ c, IsMost G n j c ∧ ([] : List Int)[j]? = some ((n : Int) - (c : Int)) ∧ c < n := fun j hj => absurd hj (Nat.not_lt_zero _)
      generalize hxs : ([] : List Int) = xs at *
      refine iteT' (by subst hxs; rfl) ?_
      · refine iteT ?_
        refine ⟨fun σ' H'' => ∃ m', m' < n + 1 - xs.length ∧ ∃ xs', m' = n + 1 - xs'.length ∧ Iv xs' σ' H'', fun σ' H'' h => h, ?_⟩
        have sb : Same H1 Hu := sm.trans su
        have hpu := su _ _ hp
        refine ⟨_, rfl, .inl ⟨rfl, _, .inl (.inl (su _ _ hF'))⟩, _, rfl, p, dx, _, rfl, hpu, p, bs, rfl, hR'.same su, bs.length, rfl, by omega, ?_⟩
        refine ⟨_, rfl, a, _, rfl, .inl (.inl (.inl (sb _ _ t1))), ((2 ^ n : Nat) : Int), by rw [List.length_map, t2], by omega, by omega, fun L hL => ?_⟩
        rw [Int.toNat_natCast]
        refine lc_accR (lo := 0) (n := 2 ^ n) (accF (List.range (2 ^ n)) (fun m => decide (v m ≤ xs.length)) fun m => V.int ((bits10 m).length : Nat)) (by omega) hL rfl (fun m H5 hm s5 _ K1 K0 k1 k0 => ?_) fun H5 s5 e5 => ?_
        · obtain ⟨w1, t, x, w2, w3⟩ := hv m hm
          have s15 := sb.trans s5
          refine ⟨rfl, _, rfl, _, rfl, a, _, _, _, rfl, rfl, .inl (.inl (s15 _ _ t1)), atI_z (by rw [List.getElem?_map, w2]; rfl), t, _, 0, _, rfl, rfl, .inl (.inl (s15 _ _ w3)), atI_nat (j := 0) rfl, _, rfl, F, _, rfl, .inl (.inl (.inl (s5 _ _ (su _ _ hF')))), _, _, rfl, rfl, _, rfl, ?_⟩
          rw [List.length_map]
          refine iteP (fun h => ?_) (fun h => ?_)
          · refine ⟨_, rfl, _, rfl, D, _, _, _, rfl, rfl, .inl (.inl (s5 _ _ (su _ _ hD'))), atI_z (by rw [List.getElem?_map, rangeget hm]; rfl), k1 _ _ (Same.refl _) (accF_yes (rangeget hm) (decide_eq_true (by omega)))⟩
          · exact k0 _ (Same.refl _) (accF_no (rangeget hm) (decide_eq_false (by omega)))
        · rw [accF_all (List.length_range).symm] at e5
          have chi0 : v 0 = 0 := (hv 0 (by omega)).1.unique (isChi_zero G n)
          refine ⟨L, ((List.range (2 ^ n)).filter fun m => decide (v m ≤ xs.length)).map fun m => ((bits10 m).length : Int), rfl, .inl (.inl (by rw [e5, List.map_map]; rfl)), ?_, fun mx hmx hle => ?_⟩
          · rw [List.length_map]
            exact List.length_pos_iff.mpr fun z => by
              have : (0 : Nat) ∈ (List.range (2 ^ n)).filter fun m => decide (v m ≤ xs.length) := List.mem_filter.mpr ⟨List.mem_range.mpr (by omega), decide_eq_true (by omega)⟩
              rw [z] at this
              cases this
          · obtain ⟨m0, hm0, rfl⟩ := List.mem_map.mp hmx
            obtain ⟨q1, q2⟩ := List.mem_filter.mp hm0
            have q1' := List.mem_range.mp q1
            have most : IsMost G n xs.length (bits10 m0).length := by
              refine most_of_table (fun m hm => (hv m hm).1) ⟨m0, q1', of_decide_eq_true q2, (bits_cnt q1' hlen).symm⟩ fun m hm hk => ?_
              rw [← bits_cnt hm hlen]
              have := hle _ (List.mem_map.mpr ⟨m, List.mem_filter.mpr ⟨List.mem_range.mpr hm, decide_eq_true hk⟩, rfl⟩)
              omega
            have s5' := su.trans s5
            refine ⟨_, _, rfl, rfl, F, _, _, rfl, rfl, s5' _ _ hF', by rw [List.length_map]; omega, n + 1 - (xs.length + 1), by omega, xs ++ [(n : Int) - ((bits10 m0).length : Int)], by rw [List.length_append]; rfl, ⟨_, rfl⟩, fun b o e => ?_, ?_, ?_, by rw [List.length_append]; simp; omega, fun j hj => ?_⟩
            · rw [upd_ne (ne_of_none e hF)]; exact s5' _ _ (sm _ _ e)
            · rw [upd_ne nDF]; exact s5' _ _ hD'
            · rw [upd_same, hn]; unfold iO; rw [List.map_append]; rfl
            · rw [List.length_append] at hj
              have hj' : j < xs.length + 1 := hj
              by_cases hjx : j < xs.length
              · obtain ⟨cc, c1, c2, c3⟩ := hxc j hjx
                exact ⟨cc, c1, by rw [List.getElem?_append_left hjx]; exact c2, fun _ => c3⟩
              · have ej : j = xs.length := by omega
                subst ej
                refine ⟨_, most, by rw [List.getElem?_append_right (Nat.le_refl _), Nat.sub_self]; rfl, fun h => ?_⟩
                rw [List.length_append] at h
                have h' : xs.length + 1 < xs.length + 1 := h
                omega
    · have hlen1 : 0 < xs.length := List.length_pos_iff.mpr hx0
      obtain ⟨cl, cl1, cl2, _⟩ := hx (xs.length - 1) (by omega)
      have hne : (xs.map V.int).isEmpty = false := by cases xs with | nil => exact absurd rfl hx0 | cons => rfl
      refine iteF' hne ?_
      have eix : atI (xs.map V.int) (-1) = some (.int ((n : Int) - (cl : Int))) := by
        have e1 : xs.map V.int = (xs.map V.int).dropLast ++ [V.int ((n : Int) - (cl : Int))] := by
          have hl2 : (xs.map V.int)[(xs.map V.int).length - 1]? = some (V.int ((n : Int) - (cl : Int))) := by rw [List.length_map, List.getElem?_map, cl2]; rfl
          obtain ⟨hh, e⟩ := List.getElem?_eq_some_iff.mp hl2
          rw [← e, ← List.getLast_eq_getElem (by intro z; rw [z] at hh; simp at hh)]
          exact (List.dropLast_concat_getLast _).symm
        rw [e1]
        exact atI_last _ _
      refine ⟨_, rfl, _, rfl, F, _, _, _, rfl, rfl, .inl (.inl (su _ _ hF')), eix, _, _, rfl, rfl, _, rfl, ?_⟩
      have cle := cl1.le
      refine iteP (fun hgt => ?_) (fun hgt => ?_)
      · have hcn : cl < n := by omega
        have hxl : xs.length ≤ n := by
          rcases most_ge cl1 with h | h <;> omega
        have hxc : ∀ j, j < xs.length → ∃ c, IsMost G n j c ∧ xs[j]? = some ((n : Int) - (c : Int)) ∧ c < n := fun j hj => by
          obtain ⟨cc, c1, c2, c3⟩ := hx j hj
          refine ⟨cc, c1, c2, ?_⟩
          by_cases hjl : j + 1 < xs.length
          · exact c3 hjl
          · have : j = xs.length - 1 := by omega
            subst this
            rw [c1.unique cl1]; exact hcn
        refine ⟨fun σ' H'' => ∃ m', m' < n + 1 - xs.length ∧ ∃ xs', m' = n + 1 - xs'.length ∧ Iv xs' σ' H'', fun σ' H'' h => h, ?_⟩
        have sb : Same H1 Hu := sm.trans su
        have hpu := su _ _ hp
        refine ⟨_, rfl, .inl ⟨rfl, _, .inl (.inl (su _ _ hF'))⟩, _, rfl, p, dx, _, rfl, hpu, p, bs, rfl, hR'.same su, bs.length, rfl, by omega, ?_⟩
        refine ⟨_, rfl, a, _, rfl, .inl (.inl (.inl (sb _ _ t1))), ((2 ^ n : Nat) : Int), by rw [List.length_map, t2], by omega, by omega, fun L hL => ?_⟩
        rw [Int.toNat_natCast]
        refine lc_accR (lo := 0) (n := 2 ^ n) (accF (List.range (2 ^ n)) (fun m => decide (v m ≤ xs.length)) fun m => V.int ((bits10 m).length : Nat)) (by omega) hL rfl (fun m H5 hm s5 _ K1 K0 k1 k0 => ?_) fun H5 s5 e5 => ?_
        · obtain ⟨w1, t, x, w2, w3⟩ := hv m hm
          have s15 := sb.trans s5
          refine ⟨rfl, _, rfl, _, rfl, a, _, _, _, rfl, rfl, .inl (.inl (s15 _ _ t1)), atI_z (by rw [List.getElem?_map, w2]; rfl), t, _, 0, _, rfl, rfl, .inl (.inl (s15 _ _ w3)), atI_nat (j := 0) rfl, _, rfl, F, _, rfl, .inl (.inl (.inl (s5 _ _ (su _ _ hF')))), _, _, rfl, rfl, _, rfl, ?_⟩
          rw [List.length_map]
          refine iteP (fun h => ?_) (fun h => ?_)
          · refine ⟨_, rfl, _, rfl, D, _, _, _, rfl, rfl, .inl (.inl (s5 _ _ (su _ _ hD'))), atI_z (by rw [List.getElem?_map, rangeget hm]; rfl), k1 _ _ (Same.refl _) (accF_yes (rangeget hm) (decide_eq_true (by omega)))⟩
          · exact k0 _ (Same.refl _) (accF_no (rangeget hm) (decide_eq_false (by omega)))
        · rw [accF_all (List.length_range).symm] at e5
          have chi0 : v 0 = 0 := (hv 0 (by omega)).1.unique (isChi_zero G n)
          refine ⟨L, ((List.range (2 ^ n)).filter fun m => decide (v m ≤ xs.length)).map fun m => ((bits10 m).length : Int), rfl, .inl (.inl (by rw [e5, List.map_map]; rfl)), ?_, fun mx hmx hle => ?_⟩
          · rw [List.length_map]
            exact List.length_pos_iff.mpr fun z => by
              have : (0 : Nat) ∈ (List.range (2 ^ n)).filter fun m => decide (v m ≤ xs.length) := List.mem_filter.mpr ⟨List.mem_range.mpr (by omega), decide_eq_true (by omega)⟩
              rw [z] at this
              cases this
          · obtain ⟨m0, hm0, rfl⟩ := List.mem_map.mp hmx
            obtain ⟨q1, q2⟩ := List.mem_filter.mp hm0
            have q1' := List.mem_range.mp q1
            have most : IsMost G n xs.length (bits10 m0).length := by
              refine most_of_table (fun m hm => (hv m hm).1) ⟨m0, q1', of_decide_eq_true q2, (bits_cnt q1' hlen).symm⟩ fun m hm hk => ?_
              rw [← bits_cnt hm hlen]
              have := hle _ (List.mem_map.mpr ⟨m, List.mem_filter.mpr ⟨List.mem_range.mpr hm, decide_eq_true hk⟩, rfl⟩)
              omega
            have s5' := su.trans s5
            refine ⟨_, _, rfl, rfl, F, _, _, rfl, rfl, s5' _ _ hF', by rw [List.length_map]; omega, n + 1 - (xs.length + 1), by omega, xs ++ [(n : Int) - ((bits10 m0).length : Int)], by rw [List.length_append]; rfl, ⟨_, rfl⟩, fun b o e => ?_, ?_, ?_, by rw [List.length_append]; simp; omega, fun j hj => ?_⟩
            · rw [upd_ne (ne_of_none e hF)]; exact s5' _ _ (sm _ _ e)
            · rw [upd_ne nDF]; exact s5' _ _ hD'
            · rw [upd_same, hn]; unfold iO; rw [List.map_append]; rfl
            · rw [List.length_append] at hj
              have hj' : j < xs.length + 1 := hj
              by_cases hjx : j < xs.length
              · obtain ⟨cc, c1, c2, c3⟩ := hxc j hjx
                exact ⟨cc, c1, by rw [List.getElem?_append_left hjx]; exact c2, fun _ => c3⟩
              · have ej : j = xs.length := by omega
                subst ej
                refine ⟨_, most, by rw [List.getElem?_append_right (Nat.le_refl _), Nat.sub_self]; rfl, fun h => ?_⟩
                rw [List.length_append] at h
                have h' : xs.length + 1 < xs.length + 1 := h
                omega
      · have hcn : cl = n := by omega
        subst hcn
        refine ⟨_, rfl, Qk F Hu xs (su _ _ hF') ?_ ((s1.trans sm).trans su)⟩
        have hmf : ∀ S, (∀ i, i < cl → S i = true) → cnt S cl = cl := fun S h => cnt_all h
        obtain ⟨S, hS, eS⟩ := cl1.1
        have hvF : IsChi G cl (fun _ => true) (xs.length - 1) := fun k' => by
          constructor
          · intro hk'
            exact hS.mono hk' fun i hi _ => all_of_cnt eS i hi
          · intro hk'
            refine Classical.byContradiction fun hlt => ?_
            obtain ⟨cc, c1, c2, c3⟩ := hx k' (by omega)
            have h1 := c3 (by omega)
            have h2 := c1.2 (fun _ => true) hk'
            rw [cnt_all fun _ _ => rfl] at h2
            omega
        refine ⟨xs.length - 1, hvF, by omega, fun j hj => ?_⟩
        obtain ⟨cc, c1, c2, _⟩ := hx j (by omega)
        exact ⟨cc, c1, c2⟩
end
end Bw
end
section
set_option Elab.async false
set_option linter.all false
set_option maxRecDepth 100000
set_option maxHeartbeats 4000000
namespace Bw
open PySem PySem.Spec PyProof.Rows L2
theorem IsChi.congr {G : Nat → Nat → Bool} {n v : Nat} {S T : Nat → Bool} (h : IsChi G n S v) (e : ∀ i, i < n → S i = T i) : IsChi G n T v := fun k => by
  rw [h k]
  exact ⟨fun h => h.mono (Nat.le_refl _) fun i hi t => by rw [e i hi]; exact t, fun h => h.mono (Nat.le_refl _) fun i hi t => by rw [← e i hi]; exact t⟩
theorem full_bits {n j : Nat} (hj : j < n) : (2 ^ n - 1).testBit j = true := by
  rw [Nat.testBit_two_pow_sub_one]
  exact decide_eq_true hj
theorem full_less {n i j : Nat} (hi : i < n) (hj : j < n) : 2 ^ i ≤ 2 ^ n - 1 ∧ (2 ^ n - 1 - 2 ^ i).testBit j = decide (j ≠ i) := by
  have hand : 2 ^ i &&& (2 ^ n - 1) = 2 ^ i := by
    rw [Nat.and_two_pow_sub_one_eq_mod]
    exact Nat.mod_eq_of_lt (Nat.pow_lt_pow_right (by omega) hi)
  obtain ⟨h1, h2⟩ := sub_bits (2 ^ n - 1) (2 ^ i) hand
  refine ⟨h1, ?_⟩
  rw [h2 j, full_bits hj, Nat.testBit_two_pow, Bool.true_and]
  by_cases e : i = j
  · subst e; simp
  · have e' : ¬ j = i := fun h => e h.symm
    simp [e, e']
section
variable {w : World} {K : PySem.W.Frag} {mg : Str → Option Value} {base : Heap}
/-- the weighty bows -/
def Weighty (G : Nat → Nat → Bool) (n i : Nat) : Prop := ∃ x y, IsChi G n (fun j => decide (j ≠ i)) x ∧ IsChi G n (fun _ => true) y ∧ x < y
def spWeighty (K : PySem.W.Frag) : Sp := fun vs H Q _ => ∃ (p q : Addr) (bs : Bs) (k : Kd), vs = [.ref p, .ref q] ∧ RowAt K H p bs ∧ KindAt K H q k ∧ bs.length ≤ 10 ∧
  ∀ a H' ws, H' a = some (nO ws) → (∀ i, i < bs.length → (i ∈ ws ↔ Weighty (gr bs.bows k) bs.length i)) → Same H H' → Q (.ref a) H'
theorem sc_weighty_bows : FnScope ["row", "kind", "table", "full", "index"] ["row", "kind"] (defScope s_weighty_bows) := ⟨rfl, rfl, rfl, by decide +kernel, rfl, by decide +kernel, by decide +kernel⟩
theorem ok_weighty_bows (c : Cy w K mg base) : Dn PG w K mg base "weighty_bows" 10 ["row", "kind"] (spWeighty K) := by
  obtain ⟨fd, F⟩ := c.fd_weighty_bows
  have D_fewest_table := ok_fewest_table c
  have D_Row___len__ := ok_Row_len c
  refine ⟨walkD F sc_weighty_bows (fun vs H Q E h => ?_) (fun cdv A outer s H vs Q E hr h => ?_) fun _ _ _ _ _ _ us hl => match us, hl with | [_, _], _ => rfl, c.m_weighty_bows, F.kp⟩
  · obtain ⟨a, b, x, y, rfl, _⟩ := h
    rfl
  · obtain ⟨p, q, bs, k, rfl, hR, hk, hlen, Qk⟩ := h
    have big : (1024 : Nat) * 2 ≤ sizeLine := by decide
    have p2 : 2 ^ bs.length ≤ 1024 := Nat.le_trans (Nat.pow_le_pow_right (by omega) hlen) (by decide)
    have p1 : 1 ≤ 2 ^ bs.length := Nat.one_le_two_pow
    refine ⟨_, (pss_cons (ps_set (i := 2) sc_weighty_bows.nd rfl (by first | exact Or.inl rfl | exact Or.inr rfl) (D_fewest_table.call (hr.mono (by decide)) rfl (pa_cons (pv 0) (pa_cons (pv 1) pa_nil))))
      (pss_cons (ps_set (i := 3) sc_weighty_bows.nd rfl (by first | exact Or.inl rfl | exact Or.inr rfl) (pe_op op_sub (pe_callB (call_len_seq_k (K0 := K) (by rfl)) (by rfl) c.f_len PySem.boot_len (pa_cons (pv 2) pa_nil)) pe_int))
      (pss_one (ps_ret (pe_lc rfl sc_weighty_bows.nd (pi_range1 (by rfl) c.f_range (pa_cons (pe_callB (Dm.len (K0 := K) (by rfl) D_Row___len__ (hr.mono (by decide))) (by rfl) c.f_len PySem.boot_len (pa_cons (pv 0) pa_nil)) pa_nil)) (blkOk_by (own := [("index", 4)]) (by show blkC ["row", "kind", "table", "full", "index"] (defScope s_weighty_bows) _ _ = true; decide +kernel)) (fun _ _ _ _ _ => (pg_name (i := 4) sc_weighty_bows.nd rfl (by first | exact Or.inl rfl | exact Or.inr rfl))) (fun _ _ _ _ _ => (pts_one (pt_cmpR op_lt (pe_ix (ix_tup_k (K0 := K) (by rfl)) (pe_ix (ix_list_k (K0 := K) (by rfl)) (pv 2) (pe_op op_sub (pv 3) (pe_op op_shl pe_int (pv 4))) (fun _ _ => rfl)) pe_int (fun _ _ => rfl)) (pe_ix (ix_tup_k (K0 := K) (by rfl)) (pe_ix (ix_list_k (K0 := K) (by rfl)) (pv 2) (pv 3) (fun _ _ => rfl)) pe_int (fun _ _ => rfl)) (nomark _)))) (fun _ _ _ _ _ => (pv 4))))))), ?_⟩
    refine ⟨_, rfl, _, rfl, p, q, bs, k, rfl, hR, hk, hlen, fun a H1 T s1 => ?_⟩
    obtain ⟨dx, l, hp, hl⟩ := (hR.same s1).ex
    generalize hG : gr bs.bows k = G at T Qk
    generalize hn : bs.length = n at T Qk hlen p1 p2
    obtain ⟨rs, t1, t2, t3⟩ := id T
    refine ⟨_, rfl, a, _, rfl, .inl (.inl (.inl t1)), _, _, rfl, rfl, ?_⟩
    have hat : ∀ m, m < 2 ^ n → ∃ t x o : Nat, rs[m]? = some t ∧ H1 t = some (.tup [.int (x : Nat), .int (o : Nat)]) ∧ IsChi G n (fun i => m.testBit i) x := fun m hm => by
      obtain ⟨x, o, g1, g2⟩ := t3 m _ (List.getElem?_eq_getElem (by omega))
      exact ⟨_, x, o, List.getElem?_eq_getElem (by omega), g1, g2⟩
    obtain ⟨tF, y, oF, f1, f2, f3⟩ := hat (2 ^ n - 1) (by omega)
    have f3' : IsChi G n (fun _ => true) y := f3.congr fun i hi => full_bits hi
    have efull : V.int (((rs.map V.ref).length : Nat) - 1) = V.int ((2 ^ n - 1 : Nat) : Int) := by rw [List.length_map, t2]; congr 1; omega
    refine ⟨_, rfl, p, dx, _, rfl, hp, p, bs, rfl, hR.same s1, bs.length, rfl, by omega, ((n : Nat) : Int), by rw [hn], by omega, by omega, fun D hD => ?_⟩
    rw [Int.toNat_natCast]
    obtain ⟨xs, hxs⟩ : ∃ xs : Nat → Bool, ∀ i, i < n → (xs i = true ↔ Weighty G n i) := ⟨fun i => @decide (Weighty G n i) (Classical.propDecidable _), fun i _ => @decide_eq_true_iff _ (Classical.propDecidable _)⟩
    refine lc_accR (lo := 0) (n := n) (accF (List.range n) xs fun i => V.int i) (by omega) hD rfl (fun i H5 hi s5 _ K1 K0 k1 k0 => ?_) fun H5 s5 e5 => ?_
    · have hl2 := (full_less hi hi).1
      have hp2 : 1 ≤ 2 ^ i := Nat.one_le_two_pow
      have hlt : 2 ^ n - 1 - 2 ^ i < 2 ^ n := by omega
      obtain ⟨t, x, o, g1, g2, g3⟩ := hat (2 ^ n - 1 - 2 ^ i) hlt
      have g3' : IsChi G n (fun j => decide (j ≠ i)) x := g3.congr fun j hj => (full_less hi hj).2
      have exi : xs i = decide (x < y) := by
        rw [Bool.eq_iff_iff, hxs i hi, decide_eq_true_eq]
        refine ⟨fun ⟨x', y', a1, a2, a3⟩ => ?_, fun h => ⟨x, y, g3', f3', h⟩⟩
        rw [g3'.unique a1, f3'.unique a2]; exact a3
      refine ⟨rfl, _, rfl, _, rfl, _, rfl, _, _, rfl, rfl, ⟨by omega, by omega, by decide⟩, _, _, rfl, rfl, a, _, ((2 ^ n - 1 - 2 ^ i : Nat) : Int), _, rfl, ?_, .inl (.inl (s5 _ _ t1)), atI_nat (by rw [List.getElem?_map, g1]; rfl), ?_⟩
      · show V.int ((((rs.map V.ref).length : Nat) - 1 : Int) - 1 * 2 ^ (0 + (i : Int)).toNat) = _
        rw [Int.zero_add, Int.toNat_natCast, List.length_map, t2]
        congr 1
        have : ((2 : Int) ^ i) = ((2 ^ i : Nat) : Int) := by push_cast; rfl
        omega
      · refine ⟨t, _, 0, _, rfl, rfl, .inl (.inl (s5 _ _ g2)), atI_nat (j := 0) rfl, _, rfl, _, rfl, a, _, ((2 ^ n - 1 : Nat) : Int), _, rfl, efull, .inl (.inl (s5 _ _ t1)), atI_nat (by rw [List.getElem?_map, f1]; rfl), tF, _, 0, _, rfl, rfl, .inl (.inl (s5 _ _ f2)), atI_nat (j := 0) rfl, _, _, rfl, rfl, _, rfl, ?_⟩
        refine iteP (fun h => ?_) (fun h => ?_)
        · exact ⟨_, rfl, by rw [Int.zero_add]; exact k1 _ _ (Same.refl _) (accF_yes (rangeget hi) (by rw [exi]; exact decide_eq_true (by omega)))⟩
        · exact k0 _ (Same.refl _) (accF_no (rangeget hi) (by rw [exi]; exact decide_eq_false (by omega)))
    · rw [accF_all (List.length_range).symm] at e5
      refine Qk D H5 ((List.range n).filter xs) e5 (fun i hi => ?_) (s1.trans s5)
      rw [List.mem_filter, List.mem_range, ← hxs i hi]
      exact ⟨fun h => h.2, fun h => ⟨hi, h⟩⟩
end
end Bw
end
section
set_option Elab.async false
set_option linter.all false
set_option maxRecDepth 100000
set_option maxHeartbeats 4000000
namespace Bw
open PySem PySem.Spec PyProof.Rows L2
section
variable {w : World} {K : PySem.W.Frag} {mg : Str → Option Value} {base : Heap}
/-- the law's bag of numbers -/
def BagAt (K : PySem.W.Frag) (p l : Addr) (cs : List Int) (H : Hp) : Prop := ∃ (a b c : Int), H p = some (.lst [.int a, .int b, .int c, .ref l]) ∧ l ≠ p ∧ SqL K H l (cs.map V.int) ∧ 0 ≤ b ∧ b < 2147483647 ∧ 0 ≤ c
/-- all but one thing stands -/
def But (p : Addr) (H H' : Hp) : Prop := ∀ b o, H b = some o → b ≠ p → H' b = some o
theorem But.refl (p : Addr) (H : Hp) : But p H H := fun _ _ e _ => e
theorem But.trans {p : Addr} {H H1 H2 : Hp} (a : But p H H1) (b : But p H1 H2) : But p H H2 := fun c o e h => b c o (a c o e h) h
theorem But.of_same {p : Addr} {H H' : Hp} (e : Same H H') : But p H H' := fun b o h _ => e b o h
theorem But.upd (p : Addr) (H : Hp) (o : HO) : But p H (upd H p o) := fun b o' e h => by rw [upd_ne h]; exact e
theorem But.seq {K : PySem.W.Frag} {p : Addr} {H H' : Hp} {a : Addr} {xs : List V} (e : But p H H') (h : SqL K H a xs) (ne : a ≠ p) : SqL K H' a xs := by
  rcases h with (h | ⟨o, h⟩) | h
  · exact .inl (.inl (e _ _ h ne))
  · exact .inl (.inr ⟨o, e _ _ h ne⟩)
  · exact .inr h
theorem But.tup {K : PySem.W.Frag} {p : Addr} {H H' : Hp} {a : Addr} {xs ys : List V} (e : But p H H') (hp : H p = some (.lst ys)) (h : SqT K H a xs) : SqT K H' a xs := by
  rcases h with (h | ⟨o, h⟩) | h
  · exact .inl (.inl (e _ _ h (ne_of h hp (by intro z; cases z))))
  · exact .inl (.inr ⟨o, e _ _ h (ne_of h hp (by intro z; cases z))⟩)
  · exact .inr h
theorem BagAt.same {K : PySem.W.Frag} {H H' : Hp} {p l : Addr} {cs : List Int} (e : Same H H') (h : BagAt K p l cs H) : BagAt K p l cs H' := by
  obtain ⟨a, b, c, h1, h2, h3, h4⟩ := h
  exact ⟨a, b, c, e _ _ h1, h2, e.seq h3, h4⟩
/-- a store elsewhere, to a thing that was new at H0 -/
theorem BagAt.store {K : PySem.W.Frag} {H0 H : Hp} {p l D : Addr} {cs : List Int} {o : HO} (h0 : BagAt K p l cs H0) (h : BagAt K p l cs H) (bt : But p H0 H) (hD : H0 D = none) : BagAt K p l cs (upd H D o) := by
  obtain ⟨a, b, c, h1, h2, h3, h4⟩ := h
  obtain ⟨a', b', c', g1, g2, g3, g4⟩ := h0
  have npD : p ≠ D := ne_of_none g1 hD
  refine ⟨a, b, c, by rw [upd_ne npD]; exact h1, h2, ?_, h4⟩
  have bt2 : But p H0 (L2.upd H D o) := fun b o' e hb => by rw [upd_ne (ne_of_none e hD)]; exact bt _ _ e hb
  exact bt2.seq g3 g2
theorem BagAt.ne {K : PySem.W.Frag} {H : Hp} {p l D : Addr} {cs : List Int} (h : BagAt K p l cs H) (hD : H D = none) : D ≠ p := by
  obtain ⟨a, b, c, h1, _⟩ := h
  exact fun z => by rw [z, h1] at hD; cases hD
theorem But.store {p D : Addr} {H0 H : Hp} {o : HO} (bt : But p H0 H) (hD : H0 D = none) : But p H0 (L2.upd H D o) := fun b o' e hb => by rw [upd_ne (ne_of_none e hD)]; exact bt _ _ e hb
def spTake (K : PySem.W.Frag) : Sp := fun vs H Q _ => ∃ (p l : Addr) (cs : List Int) (m : Nat), vs = [.ref p, .int m] ∧ BagAt K p l cs H ∧ 1 ≤ m ∧ m ≤ 1000 ∧ ∀ (d : Nat) H', d < m → BagAt K p l cs H' → But p H H' → Q (.int d) H'
theorem fmod_nat {x : Int} {m : Nat} (hm : 1 ≤ m) : ∃ d : Nat, d < m ∧ x.fmod (m : Int) = (d : Int) := by
  have h1 : 0 ≤ x.fmod (m : Int) := Int.fmod_nonneg_of_pos x (by omega)
  have h2 : x.fmod (m : Int) < (m : Int) := Int.fmod_lt_of_pos x (by omega)
  exact ⟨(x.fmod (m : Int)).toNat, by omega, by omega⟩
theorem sc_law_take : FnScope ["_law_bag_here", "_law_many", "_law_cell", "_law_mixed", "_law_drawn", "_law_begin", "_law_second"] ["_law_bag_here", "_law_many"] (defScope s_law_take) := ⟨rfl, rfl, rfl, by decide +kernel, rfl, by decide +kernel, by decide +kernel⟩
theorem ok_law_take (c : Cy w K mg base) : Dn PG w K mg base "_law_take" 1 ["_law_bag_here", "_law_many"] (spTake K) := by
  obtain ⟨fd, F⟩ := c.fd_law_take
  refine ⟨walkD F sc_law_take (fun vs H Q E h => ?_) (fun cdv A outer s H vs Q E hr h => ?_) fun _ _ _ _ _ _ us hl => match us, hl with | [_, _], _ => rfl, c.m__law_take, F.kp⟩
  · obtain ⟨a, b, _, _, rfl, _⟩ := h
    rfl
  · obtain ⟨p, l, cs, m, rfl, ⟨a, b, cc, h1, h2, h3, h4, h5, h6⟩, m1, m2, Qk⟩ := h
    refine ⟨_, (pss_cons (ps_if (pt_cmpR op_eq (pe_ix (ix_list_k (K0 := K) (by rfl)) (pv 0) pe_int (fun _ _ => rfl)) pe_int (nomark _)) (pss_cons (ps_set (i := 2) sc_law_take.nd rfl (by first | exact Or.inl rfl | exact Or.inr rfl) pe_int)
      (pss_cons (ps_if (pt_cmpR op_lt (pe_ix (ix_list_k (K0 := K) (by rfl)) (pv 0) pe_int (fun _ _ => rfl)) (pe_callB (call_len_seq_k (K0 := K) (by rfl)) (by rfl) c.f_len PySem.boot_len (pa_cons (pe_ix (ix_list_k (K0 := K) (by rfl)) (pv 0) pe_int (fun _ _ => rfl)) pa_nil)) (nomark _)) (pss_one (ps_set (i := 2) sc_law_take.nd rfl (by first | exact Or.inl rfl | exact Or.inr rfl) (pe_ix (ix_list_k (K0 := K) (by rfl)) (pe_ix (ix_list_k (K0 := K) (by rfl)) (pv 0) pe_int (fun _ _ => rfl)) (pe_ix (ix_list_k (K0 := K) (by rfl)) (pv 0) pe_int (fun _ _ => rfl)) (fun _ _ => rfl)))) pss_nil)
      (pss_cons (ps_augS (pv 0) pe_int (get_list_k (K0 := K) (by rfl)) pe_int ip_add set_list)
      (pss_cons (ps_if (pt_cmpR op_ge (pv 2) (pe_op op_pow pe_int pe_int) (nomark _)) (pss_one (ps_asg (pv 2) (pg_sub (pv 0) pe_int set_list))) pss_nil)
      (pss_cons (ps_set (i := 3) sc_law_take.nd rfl (by first | exact Or.inl rfl | exact Or.inr rfl) (pe_op op_add (pe_op op_add (pe_op op_mul (pe_ix (ix_list_k (K0 := K) (by rfl)) (pv 0) pe_int (fun _ _ => rfl)) pe_int) (pe_op op_modN (pe_callTy call_int1 (by rfl) c.f_int (by decide +kernel) (pa_cons (pv 2) pa_nil)) pe_int)) (pe_op op_mul pe_int (pe_ix (ix_list_k (K0 := K) (by rfl)) (pv 0) pe_int (fun _ _ => rfl)))))
      (pss_one (ps_asg (pe_op op_modN (pe_callTy call_int1 (by rfl) c.f_int (by decide +kernel) (pa_cons (pv 3) pa_nil)) pe_int) (pg_sub (pv 0) pe_int set_list)))))))) pss_nil)
      (pss_cons (ps_if (pt_cmpR op_gt (pe_ix (ix_list_k (K0 := K) (by rfl)) (pv 0) pe_int (fun _ _ => rfl)) pe_int (nomark _)) (pss_cons (ps_set (i := 4) sc_law_take.nd rfl (by first | exact Or.inl rfl | exact Or.inr rfl) (pe_op op_modN (pe_callTy call_int1 (by rfl) c.f_int (by decide +kernel) (pa_cons (pe_ix (ix_list_k (K0 := K) (by rfl)) (pv 0) pe_int (fun _ _ => rfl)) pa_nil)) (pv 1)))
      (pss_cons (ps_asg (pe_op op_fdivN (pe_ix (ix_list_k (K0 := K) (by rfl)) (pv 0) pe_int (fun _ _ => rfl)) (pv 1)) (pg_sub (pv 0) pe_int set_list))
      (pss_one (ps_ret (pv 4))))) pss_nil)
      (pss_cons (ps_set (i := 5) sc_law_take.nd rfl (by first | exact Or.inl rfl | exact Or.inr rfl) (pe_op op_modN (pe_callTy call_int1 (by rfl) c.f_int (by decide +kernel) (pa_cons (pe_op op_mul (pe_op op_add (pe_ix (ix_list_k (K0 := K) (by rfl)) (pv 0) pe_int (fun _ _ => rfl)) pe_int) pe_int) pa_nil)) pe_int))
      (pss_cons (ps_set (i := 6) sc_law_take.nd rfl (by first | exact Or.inl rfl | exact Or.inr rfl) (pe_op op_modN (pe_callTy call_int1 (by rfl) c.f_int (by decide +kernel) (pa_cons (pe_op op_mul (pe_op op_modN (pe_callTy call_int1 (by rfl) c.f_int (by decide +kernel) (pa_cons (pe_op op_mul (pv 5) (pv 5)) pa_nil)) pe_int) pe_int) pa_nil)) pe_int))
      (pss_one (ps_ret (pe_op op_modN (pe_callTy call_int1 (by rfl) c.f_int (by decide +kernel) (pa_cons (pe_op op_fdivN (pv 6) pe_int) pa_nil)) (pv 1)))))))), ?_⟩
    refine ⟨_, rfl, p, _, 0, _, rfl, rfl, .inl (.inl h1), atI_nat (j := 0) rfl, rfl, _, rfl, ?_⟩
    refine iteI (fun ha => ?_) (fun ha => ?_)
    · subst ha
      refine ⟨_, rfl, p, _, 2, _, rfl, rfl, .inl (.inl h1), atI_nat (j := 2) rfl, _, rfl, p, _, 3, _, rfl, rfl, .inl (.inl h1), atI_nat (j := 3) rfl, l, _, rfl, .inl h3, _, _, rfl, rfl, _, rfl, ?_⟩
      refine iteP (fun hlt => ?_) (fun hlt => ?_)
      · rw [List.length_map] at hlt
        have hz : (cs.map V.int)[cc.toNat]? = some (.int (cs[cc.toNat]'(by omega))) := by rw [List.getElem?_map, List.getElem?_eq_getElem (by omega)]; rfl
        refine ⟨_, rfl, p, _, 3, _, rfl, rfl, .inl (.inl h1), atI_nat (j := 3) rfl, _, rfl, p, _, 2, _, rfl, rfl, .inl (.inl h1), atI_nat (j := 2) rfl, l, _, ((cc.toNat : Nat) : Int), _, rfl, by congr 1; omega, h3, atI_nat hz, ?_⟩
        generalize (cs[cc.toNat]'(by omega)) = cell
        refine ⟨_, rfl, p, _, 2, _, rfl, rfl, .inl (.inl h1), atI_nat (j := 2) rfl, _, _, rfl, rfl, p, _, 2, 2, rfl, rfl, h1, rfl, ?_⟩
        have hd0 : upd H p (.lst [.int 0, .int b, .int (cc + 1), .ref l]) p = some (.lst [.int 0, .int b, .int (cc + 1), .ref l]) := upd_same
        have hbd0 : But p H (upd H p (.lst [.int 0, .int b, .int (cc + 1), .ref l])) := But.upd _ _ _
        refine ⟨_, rfl, _, _, rfl, rfl, ⟨by decide, by decide, by decide⟩, _, _, rfl, rfl, _, rfl, ?_⟩
        refine iteP (fun hge => ?_) (fun hge => ?_)
        · refine ⟨_, rfl, _, rfl, p, _, 0, 0, rfl, rfl, hd0, rfl, ?_⟩
          have hbd := hbd0.trans (But.upd p (upd H p (.lst [.int 0, .int b, .int (cc + 1), .ref l])) (.lst [.int cell, .int b, .int (cc + 1), .ref l]))
          have hd : upd (upd H p (.lst [.int 0, .int b, .int (cc + 1), .ref l])) p (.lst [.int cell, .int b, .int (cc + 1), .ref l]) p = some (.lst [.int cell, .int b, .int (cc + 1), .ref l]) := upd_same
          show tSeq _ _ _ _ (upd (upd H p (.lst [.int 0, .int b, .int (cc + 1), .ref l])) p (.lst [.int cell, .int b, .int (cc + 1), .ref l]))
          generalize upd (upd H p (.lst [.int 0, .int b, .int (cc + 1), .ref l])) p (.lst [.int cell, .int b, .int (cc + 1), .ref l]) = Hd at hbd hd ⊢
          obtain ⟨a', ea⟩ : ∃ a' : Int, a' = cell := ⟨_, rfl⟩
          rw [← ea] at hd
          have c0 : 0 ≤ cc + 1 := by omega
          refine ⟨_, rfl, p, _, 1, _, rfl, rfl, .inl (.inl hd), atI_nat (j := 1) rfl, _, _, rfl, rfl, .inl ⟨by omega, by omega⟩, _, rfl, .inl ⟨_, rfl, _, _, rfl, rfl, (by show (2147483647 : Int) ≠ 0; decide), _, _, rfl, rfl, ?_⟩⟩
          refine ⟨_, rfl, p, _, 2, _, rfl, rfl, .inl (.inl hd), atI_nat (j := 2) rfl, _, _, rfl, rfl, .inl ⟨by decide, by decide⟩, _, _, rfl, rfl, ?_⟩
          refine ⟨_, rfl, .inl ⟨_, rfl, _, _, rfl, rfl, (by show (2147483647 : Int) ≠ 0; decide), ?_⟩⟩
          refine ⟨_, rfl, p, _, 1, 1, rfl, rfl, hd, rfl, ?_⟩
          generalize b * 48271 + _ + _ = Z
          obtain ⟨d0, e1, e2⟩ := fmod_nat (x := Z) (m := 2147483647) (by decide)
          have e2' : Z.fmod 2147483647 = (d0 : Int) := e2
          have hb := hbd.trans (But.upd p Hd (.lst [.int a', .int (Z.fmod 2147483647), .int (cc + 1), .ref l]))
          have hc : upd Hd p (.lst [.int a', .int (Z.fmod 2147483647), .int (cc + 1), .ref l]) p = some (.lst [.int a', .int (Z.fmod 2147483647), .int (cc + 1), .ref l]) := upd_same
          have b0 : 0 ≤ Z.fmod 2147483647 := by rw [e2']; omega
          have b1 : Z.fmod 2147483647 < 2147483647 := by rw [e2']; omega
          show tSeq _ _ _ _ (upd Hd p (.lst [.int a', .int (Z.fmod 2147483647), .int (cc + 1), .ref l]))
          revert hb hc b0 b1
          generalize Z.fmod 2147483647 = b'
          generalize upd Hd p (.lst [.int a', .int b', .int (cc + 1), .ref l]) = Hc
          intro hb hc b0 b1
          generalize cc + 1 = c' at hc c0

          have hl4 : SqL K Hc l (cs.map V.int) := hb.seq h3 h2
          refine ⟨_, rfl, p, _, 0, _, rfl, rfl, .inl (.inl hc), atI_nat (j := 0) rfl, _, _, rfl, rfl, _, rfl, ?_⟩
          refine iteP (fun hgt => ?_) (fun hgt => ?_)
          · obtain ⟨d, d1, d2⟩ := fmod_nat (x := a') m1
            refine ⟨_, rfl, p, _, 0, _, rfl, rfl, .inl (.inl hc), atI_nat (j := 0) rfl, .inl ⟨_, rfl, ?_⟩⟩
            refine ⟨_, rfl, _, _, rfl, rfl, by omega, ?_⟩
            refine ⟨_, rfl, p, _, 0, _, rfl, rfl, .inl (.inl hc), atI_nat (j := 0) rfl, _, rfl, _, _, rfl, rfl, ⟨by omega, by omega⟩, ?_⟩
            refine ⟨_, rfl, p, _, 0, 0, rfl, rfl, hc, rfl, ?_⟩
            refine ⟨_, rfl, ?_⟩
            show Q (.int (a'.fmod (m : Int))) _
            rw [d2]
            exact Qk d _ d1 ⟨a'.fdiv m, b', c', by rw [upd_same]; rfl, h2, (hb.trans (But.upd p Hc _)).seq h3 h2, b0, b1, c0⟩ (hb.trans (But.upd p Hc _))
          · refine ⟨_, rfl, p, _, 1, _, rfl, rfl, .inl (.inl hc), atI_nat (j := 1) rfl, _, _, rfl, rfl, _, _, rfl, rfl, .inl ⟨by omega, by omega⟩, .inl ⟨_, rfl, ?_⟩⟩
            refine ⟨_, _, rfl, rfl, (by show (1000000007 : Int) ≠ 0; decide), ?_⟩
            obtain ⟨d3, d4, d5⟩ := fmod_nat (x := (b' + 1) * 39373) (m := 1000000007) (by decide)
            have d5' : ((b' + 1) * 39373).fmod 1000000007 = (d3 : Int) := d5
            refine ⟨_, rfl, _, rfl, _, _, rfl, rfl, .inl ⟨?_, ?_⟩, .inl ⟨_, rfl, ?_⟩⟩
            · show -(2 ^ 64 : Int) < ((b' + 1) * 39373).fmod 1000000007; rw [d5']; omega
            · show ((b' + 1) * 39373).fmod 1000000007 < (2 ^ 64 : Int); rw [d5']; omega
            refine ⟨_, _, rfl, rfl, (by show (998244353 : Int) ≠ 0; decide), ?_⟩
            generalize ((b' + 1) * 39373).fmod 1000000007 = X
            obtain ⟨d6, d7, d8⟩ := fmod_nat (x := X * X) (m := 998244353) (by decide)
            have d8' : (X * X).fmod 998244353 = (d6 : Int) := d8
            refine ⟨_, _, rfl, rfl, .inl ⟨?_, ?_⟩, .inl ⟨_, rfl, ?_⟩⟩
            · show -(2 ^ 64 : Int) < (X * X).fmod 998244353; rw [d8']; omega
            · show (X * X).fmod 998244353 < (2 ^ 64 : Int); rw [d8']; omega
            refine ⟨_, _, rfl, rfl, (by show (998244353 : Int) ≠ 0; decide), ?_⟩
            refine ⟨_, rfl, _, _, rfl, rfl, ⟨by decide, by decide⟩, .inl ⟨_, rfl, _, rfl, _, _, rfl, rfl, by omega, ?_⟩⟩
            generalize ((X * X).fmod 998244353 * 30011).fmod 998244353 = Y
            obtain ⟨d, d1, d2⟩ := fmod_nat (x := Y.fdiv 7) m1
            show Q (.int ((Y.fdiv 7).fmod (m : Int))) _
            rw [d2]
            exact Qk d _ d1 ⟨a', b', c', hc, h2, hl4, b0, b1, c0⟩ hb

        · show tSeq _ _ _ _ (upd H p (.lst [.int 0, .int b, .int (cc + 1), .ref l]))
          revert hd0 hbd0
          generalize upd H p (.lst [.int 0, .int b, .int (cc + 1), .ref l]) = Hd
          intro hd hbd
          obtain ⟨a', ea⟩ : ∃ a' : Int, a' = 0 := ⟨_, rfl⟩
          rw [← ea] at hd
          have c0 : 0 ≤ cc + 1 := by omega
          refine ⟨_, rfl, p, _, 1, _, rfl, rfl, .inl (.inl hd), atI_nat (j := 1) rfl, _, _, rfl, rfl, .inl ⟨by omega, by omega⟩, _, rfl, .inl ⟨_, rfl, _, _, rfl, rfl, (by show (2147483647 : Int) ≠ 0; decide), _, _, rfl, rfl, ?_⟩⟩
          refine ⟨_, rfl, p, _, 2, _, rfl, rfl, .inl (.inl hd), atI_nat (j := 2) rfl, _, _, rfl, rfl, .inl ⟨by decide, by decide⟩, _, _, rfl, rfl, ?_⟩
          refine ⟨_, rfl, .inl ⟨_, rfl, _, _, rfl, rfl, (by show (2147483647 : Int) ≠ 0; decide), ?_⟩⟩
          refine ⟨_, rfl, p, _, 1, 1, rfl, rfl, hd, rfl, ?_⟩
          generalize b * 48271 + _ + _ = Z
          obtain ⟨d0, e1, e2⟩ := fmod_nat (x := Z) (m := 2147483647) (by decide)
          have e2' : Z.fmod 2147483647 = (d0 : Int) := e2
          have hb := hbd.trans (But.upd p Hd (.lst [.int a', .int (Z.fmod 2147483647), .int (cc + 1), .ref l]))
          have hc : upd Hd p (.lst [.int a', .int (Z.fmod 2147483647), .int (cc + 1), .ref l]) p = some (.lst [.int a', .int (Z.fmod 2147483647), .int (cc + 1), .ref l]) := upd_same
          have b0 : 0 ≤ Z.fmod 2147483647 := by rw [e2']; omega
          have b1 : Z.fmod 2147483647 < 2147483647 := by rw [e2']; omega
          show tSeq _ _ _ _ (upd Hd p (.lst [.int a', .int (Z.fmod 2147483647), .int (cc + 1), .ref l]))
          revert hb hc b0 b1
          generalize Z.fmod 2147483647 = b'
          generalize upd Hd p (.lst [.int a', .int b', .int (cc + 1), .ref l]) = Hc
          intro hb hc b0 b1
          generalize cc + 1 = c' at hc c0

          have hl4 : SqL K Hc l (cs.map V.int) := hb.seq h3 h2
          refine ⟨_, rfl, p, _, 0, _, rfl, rfl, .inl (.inl hc), atI_nat (j := 0) rfl, _, _, rfl, rfl, _, rfl, ?_⟩
          refine iteP (fun hgt => ?_) (fun hgt => ?_)
          · obtain ⟨d, d1, d2⟩ := fmod_nat (x := a') m1
            refine ⟨_, rfl, p, _, 0, _, rfl, rfl, .inl (.inl hc), atI_nat (j := 0) rfl, .inl ⟨_, rfl, ?_⟩⟩
            refine ⟨_, rfl, _, _, rfl, rfl, by omega, ?_⟩
            refine ⟨_, rfl, p, _, 0, _, rfl, rfl, .inl (.inl hc), atI_nat (j := 0) rfl, _, rfl, _, _, rfl, rfl, ⟨by omega, by omega⟩, ?_⟩
            refine ⟨_, rfl, p, _, 0, 0, rfl, rfl, hc, rfl, ?_⟩
            refine ⟨_, rfl, ?_⟩
            show Q (.int (a'.fmod (m : Int))) _
            rw [d2]
            exact Qk d _ d1 ⟨a'.fdiv m, b', c', by rw [upd_same]; rfl, h2, (hb.trans (But.upd p Hc _)).seq h3 h2, b0, b1, c0⟩ (hb.trans (But.upd p Hc _))
          · refine ⟨_, rfl, p, _, 1, _, rfl, rfl, .inl (.inl hc), atI_nat (j := 1) rfl, _, _, rfl, rfl, _, _, rfl, rfl, .inl ⟨by omega, by omega⟩, .inl ⟨_, rfl, ?_⟩⟩
            refine ⟨_, _, rfl, rfl, (by show (1000000007 : Int) ≠ 0; decide), ?_⟩
            obtain ⟨d3, d4, d5⟩ := fmod_nat (x := (b' + 1) * 39373) (m := 1000000007) (by decide)
            have d5' : ((b' + 1) * 39373).fmod 1000000007 = (d3 : Int) := d5
            refine ⟨_, rfl, _, rfl, _, _, rfl, rfl, .inl ⟨?_, ?_⟩, .inl ⟨_, rfl, ?_⟩⟩
            · show -(2 ^ 64 : Int) < ((b' + 1) * 39373).fmod 1000000007; rw [d5']; omega
            · show ((b' + 1) * 39373).fmod 1000000007 < (2 ^ 64 : Int); rw [d5']; omega
            refine ⟨_, _, rfl, rfl, (by show (998244353 : Int) ≠ 0; decide), ?_⟩
            generalize ((b' + 1) * 39373).fmod 1000000007 = X
            obtain ⟨d6, d7, d8⟩ := fmod_nat (x := X * X) (m := 998244353) (by decide)
            have d8' : (X * X).fmod 998244353 = (d6 : Int) := d8
            refine ⟨_, _, rfl, rfl, .inl ⟨?_, ?_⟩, .inl ⟨_, rfl, ?_⟩⟩
            · show -(2 ^ 64 : Int) < (X * X).fmod 998244353; rw [d8']; omega
            · show (X * X).fmod 998244353 < (2 ^ 64 : Int); rw [d8']; omega
            refine ⟨_, _, rfl, rfl, (by show (998244353 : Int) ≠ 0; decide), ?_⟩
            refine ⟨_, rfl, _, _, rfl, rfl, ⟨by decide, by decide⟩, .inl ⟨_, rfl, _, rfl, _, _, rfl, rfl, by omega, ?_⟩⟩
            generalize ((X * X).fmod 998244353 * 30011).fmod 998244353 = Y
            obtain ⟨d, d1, d2⟩ := fmod_nat (x := Y.fdiv 7) m1
            show Q (.int ((Y.fdiv 7).fmod (m : Int))) _
            rw [d2]
            exact Qk d _ d1 ⟨a', b', c', hc, h2, hl4, b0, b1, c0⟩ hb
      · refine ⟨_, rfl, p, _, 2, _, rfl, rfl, .inl (.inl h1), atI_nat (j := 2) rfl, _, _, rfl, rfl, p, _, 2, 2, rfl, rfl, h1, rfl, ?_⟩
        have hd0 : upd H p (.lst [.int 0, .int b, .int (cc + 1), .ref l]) p = some (.lst [.int 0, .int b, .int (cc + 1), .ref l]) := upd_same
        have hbd0 : But p H (upd H p (.lst [.int 0, .int b, .int (cc + 1), .ref l])) := But.upd _ _ _
        refine ⟨_, rfl, _, _, rfl, rfl, ⟨by decide, by decide, by decide⟩, _, _, rfl, rfl, _, rfl, ?_⟩
        refine iteP (fun hge => ?_) (fun hge => ?_)
        · refine ⟨_, rfl, _, rfl, p, _, 0, 0, rfl, rfl, hd0, rfl, ?_⟩
          have hbd := hbd0.trans (But.upd p (upd H p (.lst [.int 0, .int b, .int (cc + 1), .ref l])) (.lst [.int 0, .int b, .int (cc + 1), .ref l]))
          have hd : upd (upd H p (.lst [.int 0, .int b, .int (cc + 1), .ref l])) p (.lst [.int 0, .int b, .int (cc + 1), .ref l]) p = some (.lst [.int 0, .int b, .int (cc + 1), .ref l]) := upd_same
          show tSeq _ _ _ _ (upd (upd H p (.lst [.int 0, .int b, .int (cc + 1), .ref l])) p (.lst [.int 0, .int b, .int (cc + 1), .ref l]))
          generalize upd (upd H p (.lst [.int 0, .int b, .int (cc + 1), .ref l])) p (.lst [.int 0, .int b, .int (cc + 1), .ref l]) = Hd at hbd hd ⊢
          obtain ⟨a', ea⟩ : ∃ a' : Int, a' = 0 := ⟨_, rfl⟩
          rw [← ea] at hd
          have c0 : 0 ≤ cc + 1 := by omega
          refine ⟨_, rfl, p, _, 1, _, rfl, rfl, .inl (.inl hd), atI_nat (j := 1) rfl, _, _, rfl, rfl, .inl ⟨by omega, by omega⟩, _, rfl, .inl ⟨_, rfl, _, _, rfl, rfl, (by show (2147483647 : Int) ≠ 0; decide), _, _, rfl, rfl, ?_⟩⟩
          refine ⟨_, rfl, p, _, 2, _, rfl, rfl, .inl (.inl hd), atI_nat (j := 2) rfl, _, _, rfl, rfl, .inl ⟨by decide, by decide⟩, _, _, rfl, rfl, ?_⟩
          refine ⟨_, rfl, .inl ⟨_, rfl, _, _, rfl, rfl, (by show (2147483647 : Int) ≠ 0; decide), ?_⟩⟩
          refine ⟨_, rfl, p, _, 1, 1, rfl, rfl, hd, rfl, ?_⟩
          generalize b * 48271 + _ + _ = Z
          obtain ⟨d0, e1, e2⟩ := fmod_nat (x := Z) (m := 2147483647) (by decide)
          have e2' : Z.fmod 2147483647 = (d0 : Int) := e2
          have hb := hbd.trans (But.upd p Hd (.lst [.int a', .int (Z.fmod 2147483647), .int (cc + 1), .ref l]))
          have hc : upd Hd p (.lst [.int a', .int (Z.fmod 2147483647), .int (cc + 1), .ref l]) p = some (.lst [.int a', .int (Z.fmod 2147483647), .int (cc + 1), .ref l]) := upd_same
          have b0 : 0 ≤ Z.fmod 2147483647 := by rw [e2']; omega
          have b1 : Z.fmod 2147483647 < 2147483647 := by rw [e2']; omega
          show tSeq _ _ _ _ (upd Hd p (.lst [.int a', .int (Z.fmod 2147483647), .int (cc + 1), .ref l]))
          revert hb hc b0 b1
          generalize Z.fmod 2147483647 = b'
          generalize upd Hd p (.lst [.int a', .int b', .int (cc + 1), .ref l]) = Hc
          intro hb hc b0 b1
          generalize cc + 1 = c' at hc c0

          have hl4 : SqL K Hc l (cs.map V.int) := hb.seq h3 h2
          refine ⟨_, rfl, p, _, 0, _, rfl, rfl, .inl (.inl hc), atI_nat (j := 0) rfl, _, _, rfl, rfl, _, rfl, ?_⟩
          refine iteP (fun hgt => ?_) (fun hgt => ?_)
          · obtain ⟨d, d1, d2⟩ := fmod_nat (x := a') m1
            refine ⟨_, rfl, p, _, 0, _, rfl, rfl, .inl (.inl hc), atI_nat (j := 0) rfl, .inl ⟨_, rfl, ?_⟩⟩
            refine ⟨_, rfl, _, _, rfl, rfl, by omega, ?_⟩
            refine ⟨_, rfl, p, _, 0, _, rfl, rfl, .inl (.inl hc), atI_nat (j := 0) rfl, _, rfl, _, _, rfl, rfl, ⟨by omega, by omega⟩, ?_⟩
            refine ⟨_, rfl, p, _, 0, 0, rfl, rfl, hc, rfl, ?_⟩
            refine ⟨_, rfl, ?_⟩
            show Q (.int (a'.fmod (m : Int))) _
            rw [d2]
            exact Qk d _ d1 ⟨a'.fdiv m, b', c', by rw [upd_same]; rfl, h2, (hb.trans (But.upd p Hc _)).seq h3 h2, b0, b1, c0⟩ (hb.trans (But.upd p Hc _))
          · refine ⟨_, rfl, p, _, 1, _, rfl, rfl, .inl (.inl hc), atI_nat (j := 1) rfl, _, _, rfl, rfl, _, _, rfl, rfl, .inl ⟨by omega, by omega⟩, .inl ⟨_, rfl, ?_⟩⟩
            refine ⟨_, _, rfl, rfl, (by show (1000000007 : Int) ≠ 0; decide), ?_⟩
            obtain ⟨d3, d4, d5⟩ := fmod_nat (x := (b' + 1) * 39373) (m := 1000000007) (by decide)
            have d5' : ((b' + 1) * 39373).fmod 1000000007 = (d3 : Int) := d5
            refine ⟨_, rfl, _, rfl, _, _, rfl, rfl, .inl ⟨?_, ?_⟩, .inl ⟨_, rfl, ?_⟩⟩
            · show -(2 ^ 64 : Int) < ((b' + 1) * 39373).fmod 1000000007; rw [d5']; omega
            · show ((b' + 1) * 39373).fmod 1000000007 < (2 ^ 64 : Int); rw [d5']; omega
            refine ⟨_, _, rfl, rfl, (by show (998244353 : Int) ≠ 0; decide), ?_⟩
            generalize ((b' + 1) * 39373).fmod 1000000007 = X
            obtain ⟨d6, d7, d8⟩ := fmod_nat (x := X * X) (m := 998244353) (by decide)
            have d8' : (X * X).fmod 998244353 = (d6 : Int) := d8
            refine ⟨_, _, rfl, rfl, .inl ⟨?_, ?_⟩, .inl ⟨_, rfl, ?_⟩⟩
            · show -(2 ^ 64 : Int) < (X * X).fmod 998244353; rw [d8']; omega
            · show (X * X).fmod 998244353 < (2 ^ 64 : Int); rw [d8']; omega
            refine ⟨_, _, rfl, rfl, (by show (998244353 : Int) ≠ 0; decide), ?_⟩
            refine ⟨_, rfl, _, _, rfl, rfl, ⟨by decide, by decide⟩, .inl ⟨_, rfl, _, rfl, _, _, rfl, rfl, by omega, ?_⟩⟩
            generalize ((X * X).fmod 998244353 * 30011).fmod 998244353 = Y
            obtain ⟨d, d1, d2⟩ := fmod_nat (x := Y.fdiv 7) m1
            show Q (.int ((Y.fdiv 7).fmod (m : Int))) _
            rw [d2]
            exact Qk d _ d1 ⟨a', b', c', hc, h2, hl4, b0, b1, c0⟩ hb

        · show tSeq _ _ _ _ (upd H p (.lst [.int 0, .int b, .int (cc + 1), .ref l]))
          revert hd0 hbd0
          generalize upd H p (.lst [.int 0, .int b, .int (cc + 1), .ref l]) = Hd
          intro hd hbd
          obtain ⟨a', ea⟩ : ∃ a' : Int, a' = 0 := ⟨_, rfl⟩
          rw [← ea] at hd
          have c0 : 0 ≤ cc + 1 := by omega
          refine ⟨_, rfl, p, _, 1, _, rfl, rfl, .inl (.inl hd), atI_nat (j := 1) rfl, _, _, rfl, rfl, .inl ⟨by omega, by omega⟩, _, rfl, .inl ⟨_, rfl, _, _, rfl, rfl, (by show (2147483647 : Int) ≠ 0; decide), _, _, rfl, rfl, ?_⟩⟩
          refine ⟨_, rfl, p, _, 2, _, rfl, rfl, .inl (.inl hd), atI_nat (j := 2) rfl, _, _, rfl, rfl, .inl ⟨by decide, by decide⟩, _, _, rfl, rfl, ?_⟩
          refine ⟨_, rfl, .inl ⟨_, rfl, _, _, rfl, rfl, (by show (2147483647 : Int) ≠ 0; decide), ?_⟩⟩
          refine ⟨_, rfl, p, _, 1, 1, rfl, rfl, hd, rfl, ?_⟩
          generalize b * 48271 + _ + _ = Z
          obtain ⟨d0, e1, e2⟩ := fmod_nat (x := Z) (m := 2147483647) (by decide)
          have e2' : Z.fmod 2147483647 = (d0 : Int) := e2
          have hb := hbd.trans (But.upd p Hd (.lst [.int a', .int (Z.fmod 2147483647), .int (cc + 1), .ref l]))
          have hc : upd Hd p (.lst [.int a', .int (Z.fmod 2147483647), .int (cc + 1), .ref l]) p = some (.lst [.int a', .int (Z.fmod 2147483647), .int (cc + 1), .ref l]) := upd_same
          have b0 : 0 ≤ Z.fmod 2147483647 := by rw [e2']; omega
          have b1 : Z.fmod 2147483647 < 2147483647 := by rw [e2']; omega
          show tSeq _ _ _ _ (upd Hd p (.lst [.int a', .int (Z.fmod 2147483647), .int (cc + 1), .ref l]))
          revert hb hc b0 b1
          generalize Z.fmod 2147483647 = b'
          generalize upd Hd p (.lst [.int a', .int b', .int (cc + 1), .ref l]) = Hc
          intro hb hc b0 b1
          generalize cc + 1 = c' at hc c0

          have hl4 : SqL K Hc l (cs.map V.int) := hb.seq h3 h2
          refine ⟨_, rfl, p, _, 0, _, rfl, rfl, .inl (.inl hc), atI_nat (j := 0) rfl, _, _, rfl, rfl, _, rfl, ?_⟩
          refine iteP (fun hgt => ?_) (fun hgt => ?_)
          · obtain ⟨d, d1, d2⟩ := fmod_nat (x := a') m1
            refine ⟨_, rfl, p, _, 0, _, rfl, rfl, .inl (.inl hc), atI_nat (j := 0) rfl, .inl ⟨_, rfl, ?_⟩⟩
            refine ⟨_, rfl, _, _, rfl, rfl, by omega, ?_⟩
            refine ⟨_, rfl, p, _, 0, _, rfl, rfl, .inl (.inl hc), atI_nat (j := 0) rfl, _, rfl, _, _, rfl, rfl, ⟨by omega, by omega⟩, ?_⟩
            refine ⟨_, rfl, p, _, 0, 0, rfl, rfl, hc, rfl, ?_⟩
            refine ⟨_, rfl, ?_⟩
            show Q (.int (a'.fmod (m : Int))) _
            rw [d2]
            exact Qk d _ d1 ⟨a'.fdiv m, b', c', by rw [upd_same]; rfl, h2, (hb.trans (But.upd p Hc _)).seq h3 h2, b0, b1, c0⟩ (hb.trans (But.upd p Hc _))
          · refine ⟨_, rfl, p, _, 1, _, rfl, rfl, .inl (.inl hc), atI_nat (j := 1) rfl, _, _, rfl, rfl, _, _, rfl, rfl, .inl ⟨by omega, by omega⟩, .inl ⟨_, rfl, ?_⟩⟩
            refine ⟨_, _, rfl, rfl, (by show (1000000007 : Int) ≠ 0; decide), ?_⟩
            obtain ⟨d3, d4, d5⟩ := fmod_nat (x := (b' + 1) * 39373) (m := 1000000007) (by decide)
            have d5' : ((b' + 1) * 39373).fmod 1000000007 = (d3 : Int) := d5
            refine ⟨_, rfl, _, rfl, _, _, rfl, rfl, .inl ⟨?_, ?_⟩, .inl ⟨_, rfl, ?_⟩⟩
            · show -(2 ^ 64 : Int) < ((b' + 1) * 39373).fmod 1000000007; rw [d5']; omega
            · show ((b' + 1) * 39373).fmod 1000000007 < (2 ^ 64 : Int); rw [d5']; omega
            refine ⟨_, _, rfl, rfl, (by show (998244353 : Int) ≠ 0; decide), ?_⟩
            generalize ((b' + 1) * 39373).fmod 1000000007 = X
            obtain ⟨d6, d7, d8⟩ := fmod_nat (x := X * X) (m := 998244353) (by decide)
            have d8' : (X * X).fmod 998244353 = (d6 : Int) := d8
            refine ⟨_, _, rfl, rfl, .inl ⟨?_, ?_⟩, .inl ⟨_, rfl, ?_⟩⟩
            · show -(2 ^ 64 : Int) < (X * X).fmod 998244353; rw [d8']; omega
            · show (X * X).fmod 998244353 < (2 ^ 64 : Int); rw [d8']; omega
            refine ⟨_, _, rfl, rfl, (by show (998244353 : Int) ≠ 0; decide), ?_⟩
            refine ⟨_, rfl, _, _, rfl, rfl, ⟨by decide, by decide⟩, .inl ⟨_, rfl, _, rfl, _, _, rfl, rfl, by omega, ?_⟩⟩
            generalize ((X * X).fmod 998244353 * 30011).fmod 998244353 = Y
            obtain ⟨d, d1, d2⟩ := fmod_nat (x := Y.fdiv 7) m1
            show Q (.int ((Y.fdiv 7).fmod (m : Int))) _
            rw [d2]
            exact Qk d _ d1 ⟨a', b', c', hc, h2, hl4, b0, b1, c0⟩ hb
    · obtain ⟨a', ea⟩ : ∃ a', a' = a := ⟨_, rfl⟩
      obtain ⟨b', eb⟩ : ∃ b', b' = b := ⟨_, rfl⟩
      obtain ⟨c', ec⟩ : ∃ c', c' = cc := ⟨_, rfl⟩
      obtain ⟨Hc, eH⟩ : ∃ Hc, Hc = H := ⟨_, rfl⟩
      subst eH
      have hc := h1
      rw [← ea, ← eb, ← ec] at hc
      have hb := But.refl p Hc
      have b0 : 0 ≤ b' := by omega
      have b1 : b' < 2147483647 := by omega
      have c0 : 0 ≤ c' := by omega
      have hl4 : SqL K Hc l (cs.map V.int) := hb.seq h3 h2
      refine ⟨_, rfl, p, _, 0, _, rfl, rfl, .inl (.inl hc), atI_nat (j := 0) rfl, _, _, rfl, rfl, _, rfl, ?_⟩
      refine iteP (fun hgt => ?_) (fun hgt => ?_)
      · obtain ⟨d, d1, d2⟩ := fmod_nat (x := a') m1
        refine ⟨_, rfl, p, _, 0, _, rfl, rfl, .inl (.inl hc), atI_nat (j := 0) rfl, .inl ⟨_, rfl, ?_⟩⟩
        refine ⟨_, rfl, _, _, rfl, rfl, by omega, ?_⟩
        refine ⟨_, rfl, p, _, 0, _, rfl, rfl, .inl (.inl hc), atI_nat (j := 0) rfl, _, rfl, _, _, rfl, rfl, ⟨by omega, by omega⟩, ?_⟩
        refine ⟨_, rfl, p, _, 0, 0, rfl, rfl, hc, rfl, ?_⟩
        refine ⟨_, rfl, ?_⟩
        show Q (.int (a'.fmod (m : Int))) _
        rw [d2]
        exact Qk d _ d1 ⟨a'.fdiv m, b', c', by rw [upd_same]; rfl, h2, (hb.trans (But.upd p Hc _)).seq h3 h2, b0, b1, c0⟩ (hb.trans (But.upd p Hc _))
      · refine ⟨_, rfl, p, _, 1, _, rfl, rfl, .inl (.inl hc), atI_nat (j := 1) rfl, _, _, rfl, rfl, _, _, rfl, rfl, .inl ⟨by omega, by omega⟩, .inl ⟨_, rfl, ?_⟩⟩
        refine ⟨_, _, rfl, rfl, (by show (1000000007 : Int) ≠ 0; decide), ?_⟩
        obtain ⟨d3, d4, d5⟩ := fmod_nat (x := (b' + 1) * 39373) (m := 1000000007) (by decide)
        have d5' : ((b' + 1) * 39373).fmod 1000000007 = (d3 : Int) := d5
        refine ⟨_, rfl, _, rfl, _, _, rfl, rfl, .inl ⟨?_, ?_⟩, .inl ⟨_, rfl, ?_⟩⟩
        · show -(2 ^ 64 : Int) < ((b' + 1) * 39373).fmod 1000000007; rw [d5']; omega
        · show ((b' + 1) * 39373).fmod 1000000007 < (2 ^ 64 : Int); rw [d5']; omega
        refine ⟨_, _, rfl, rfl, (by show (998244353 : Int) ≠ 0; decide), ?_⟩
        generalize ((b' + 1) * 39373).fmod 1000000007 = X
        obtain ⟨d6, d7, d8⟩ := fmod_nat (x := X * X) (m := 998244353) (by decide)
        have d8' : (X * X).fmod 998244353 = (d6 : Int) := d8
        refine ⟨_, _, rfl, rfl, .inl ⟨?_, ?_⟩, .inl ⟨_, rfl, ?_⟩⟩
        · show -(2 ^ 64 : Int) < (X * X).fmod 998244353; rw [d8']; omega
        · show (X * X).fmod 998244353 < (2 ^ 64 : Int); rw [d8']; omega
        refine ⟨_, _, rfl, rfl, (by show (998244353 : Int) ≠ 0; decide), ?_⟩
        refine ⟨_, rfl, _, _, rfl, rfl, ⟨by decide, by decide⟩, .inl ⟨_, rfl, _, rfl, _, _, rfl, rfl, by omega, ?_⟩⟩
        generalize ((X * X).fmod 998244353 * 30011).fmod 998244353 = Y
        obtain ⟨d, d1, d2⟩ := fmod_nat (x := Y.fdiv 7) m1
        show Q (.int ((Y.fdiv 7).fmod (m : Int))) _
        rw [d2]
        exact Qk d _ d1 ⟨a', b', c', hc, h2, hl4, b0, b1, c0⟩ hb
end
end Bw
end
section
set_option Elab.async false
set_option linter.all false
set_option maxRecDepth 100000
set_option maxHeartbeats 4000000
namespace Bw
open PySem PySem.Spec PyProof.Rows L2
section
variable {w : World} {K : PySem.W.Frag} {mg : Str → Option Value} {base : Heap}
theorem vals_int {ns : List Int} {i : Nat} {x : V} (h : (ns.map V.int)[i]? = some x) : ∃ n, ns[i]? = some n ∧ x = .int n := by
  rw [List.getElem?_map] at h
  obtain ⟨n, h1, h2⟩ := Option.map_eq_some_iff.mp h
  exact ⟨n, h1, h2.symm⟩
def spBag (K : PySem.W.Frag) : Sp := fun vs H Q _ => ∃ (a : Addr) (ns : List Int), vs = [.ref a] ∧ SqL K H a (ns.map V.int) ∧ ns.length ≤ 63 ∧ ∀ p l cs H', BagAt K p l cs H' → Q (.ref p) H'
theorem sc_law_bag : FnScope ["_law_script", "_law_cell"] ["_law_script"] (defScope s_law_bag) := ⟨rfl, rfl, rfl, by decide +kernel, rfl, by decide +kernel, by decide +kernel⟩
theorem ok_law_bag (c : Cy w K mg base) : Dn PG w K mg base "_law_bag" 1 ["_law_script"] (spBag K) := by
  obtain ⟨fd, F⟩ := c.fd_law_bag
  refine ⟨walkD F sc_law_bag (fun vs H Q E h => ?_) (fun cdv A outer s H vs Q E hr h => ?_) fun _ _ _ _ _ _ us hl => match us, hl with | [_], _ => rfl, c.m__law_bag, F.kp⟩
  · obtain ⟨a, b, rfl, _⟩ := h
    rfl
  · obtain ⟨a, ns, rfl, h1, h2, Qk⟩ := h
    refine ⟨_, (pss_one (ps_ret (pe_lst (pa_cons pe_int (pa_cons pe_int (pa_cons pe_int (pa_cons (pe_lc rfl sc_law_bag.nd (pi_list_k (K0 := K) (by rfl) (pe_slice (sl_list_k (K0 := K) (by rfl)) (pv 0) po_none (po_some pe_int))) (blkOk_by (own := [("_law_cell", 1)]) (by show blkC ["_law_script", "_law_cell"] (defScope s_law_bag) _ _ = true; decide +kernel)) (fun _ _ _ _ _ => (pg_name (i := 1) sc_law_bag.nd rfl (by first | exact Or.inl rfl | exact Or.inr rfl))) (fun _ _ _ _ _ => pts_nil) (fun _ _ _ _ _ => (pe_callB call_abs (by rfl) c.f_abs (by decide +kernel) (pa_cons (pv 1) pa_nil)))) pa_nil))))))), ?_⟩
    refine ⟨_, rfl, _, rfl, a, _, rfl, h1, fun u hu => ⟨u, rfl, ⟨_, .inl (.inl upd_same)⟩, fun D hD => ?_⟩⟩
    have ec : cutV (ns.map V.int) none (some 63) = (ns.take 63).map V.int := by
      unfold cutV
      rw [HT.sIx_none, show (63 : Int) = ((63 : Nat) : Int) from rfl, HT.sIx_nat, List.length_map, Nat.min_eq_right h2, List.drop_zero, Nat.sub_zero, List.take_of_length_le (by rw [List.length_map]; exact Nat.le_refl _), List.take_of_length_le h2]
    have hl : (cutV (ns.map V.int) none (some 63)).length ≤ sizeLine := Nat.le_trans (cutV_length _ _ _) (by rw [List.length_map]; exact Nat.le_trans h2 (by decide))
    refine lc_accL (accM (ns.take 63) fun n => V.int (if n < 0 then -n else n)) (.inl (.inl upd_same)) hl hD rfl (fun i x H' hx sm _ K1 K0 k1 k0 => ?_) fun H' sm e => ?_
    · rw [ec] at hx
      obtain ⟨n, hn, rfl⟩ := vals_int hx
      exact ⟨rfl, _, rfl, _, rfl, k1 _ _ (Same.refl _) (accM_succ (f := fun n => V.int (if n < 0 then -n else n)) hn)⟩
    · rw [accM_all (by rw [ec, List.length_map])] at e
      refine ⟨by show 4 ≤ sizeLine; decide, fun q hq => Qk q D ((ns.take 63).map fun n => if n < 0 then -n else n) _ ⟨0, 1234567891, 0, upd_same, ne_of_none e hq, .inl (.inl ?_), by decide, by decide, by decide⟩⟩
      rw [upd_ne (ne_of_none e hq), e, List.map_map]
      rfl
def spAllWays (K : PySem.W.Frag) : Sp := fun vs H Q _ => vs = [] ∧ ∀ l, H l = none → Q (.ref l) (upd H l (.lst (wsV allW)))
theorem sc_law_all_ways : FnScope [] [] (defScope s_law_all_ways) := ⟨rfl, rfl, rfl, by decide +kernel, rfl, by decide +kernel, by decide +kernel⟩
theorem ok_law_all_ways (c : Cy w K mg base) : Dn PG w K mg base "_law_all_ways" 1 [] (spAllWays K) := by
  obtain ⟨fd, F⟩ := c.fd_law_all_ways
  refine ⟨walkD F sc_law_all_ways (fun vs H Q E h => ?_) (fun cdv A outer s H vs Q E hr h => ?_) fun _ _ _ _ _ _ us hl => match us, hl with | [], _ => rfl, c.m__law_all_ways, F.kp⟩
  · rw [h.1]; rfl
  · obtain ⟨rfl, Qk⟩ := h
    refine ⟨_, (pss_one (ps_ret (pe_lst (pa_cons pe_str (pa_cons pe_str (pa_cons pe_str (pa_cons pe_str (pa_cons pe_str (pa_cons pe_str (pa_cons pe_str pa_nil)))))))))), ?_⟩
    exact ⟨by show 7 ≤ sizeLine; decide, Qk⟩
def spAt (K : PySem.W.Frag) : Sp := fun vs H Q _ => ∃ (a : Addr) (xs : List Int) (k : Nat), vs = [.ref a, .int k] ∧ H a = some (iO xs) ∧ Q (.int (at0 xs k)) H
theorem sc_law_at : FnScope ["_law_values", "_law_many"] ["_law_values", "_law_many"] (defScope s_law_at) := ⟨rfl, rfl, rfl, by decide +kernel, rfl, by decide +kernel, by decide +kernel⟩
theorem ok_law_at (c : Cy w K mg base) : Dn PG w K mg base "_law_at" 1 ["_law_values", "_law_many"] (spAt K) := by
  obtain ⟨fd, F⟩ := c.fd_law_at
  refine ⟨walkD F sc_law_at (fun vs H Q E h => ?_) (fun cdv A outer s H vs Q E hr h => ?_) fun _ _ _ _ _ _ us hl => match us, hl with | [_, _], _ => rfl, c.m__law_at, F.kp⟩
  · obtain ⟨a, b, k, rfl, _⟩ := h
    rfl
  · obtain ⟨a, xs, k, rfl, h1, Qk⟩ := h
    refine ⟨_, (pss_one (ps_ret (pe_ifExp (pt_cmpR op_lt (pv 1) (pe_callB (call_len_seq_k (K0 := K) (by rfl)) (by rfl) c.f_len PySem.boot_len (pa_cons (pv 0) pa_nil)) (nomark _)) (pe_ix (ix_list_k (K0 := K) (by rfl)) (pv 0) (pv 1) (fun _ _ => rfl)) pe_int))), ?_⟩
    refine ⟨_, rfl, _, rfl, a, _, rfl, .inl (.inl (.inl h1)), _, _, rfl, rfl, _, rfl, ?_⟩
    rw [List.length_map]
    unfold at0 at Qk
    refine iteP (fun h => ?_) (fun h => ?_)
    · have hk : k < xs.length := by omega
      rw [if_pos hk] at Qk
      refine ⟨_, rfl, _, rfl, a, _, _, _, rfl, rfl, .inl (.inl h1), atI_nat (v := .int (xs.getD k 0)) (by rw [List.getElem?_map, List.getD_eq_getElem?_getD, List.getElem?_eq_getElem hk]; rfl), Qk⟩
    · rw [if_neg (by omega)] at Qk
      exact Qk
def spOther (K : PySem.W.Frag) : Sp := fun vs H Q _ => ∃ (a : Addr) (ws : List Way), vs = [.ref a] ∧ H a = some (.lst (wsV ws)) ∧ ∀ l H' us, H' l = some (.lst (wsV us)) → us.length ≤ 7 → Same H H' → Q (.ref l) H'
theorem sc_law_other : FnScope ["_law_ways", "_law_name"] ["_law_ways"] (defScope s_law_other) := ⟨rfl, rfl, rfl, by decide +kernel, rfl, by decide +kernel, by decide +kernel⟩
theorem ok_law_other (c : Cy w K mg base) : Dn PG w K mg base "_law_other" 2 ["_law_ways"] (spOther K) := by
  obtain ⟨fd, F⟩ := c.fd_law_other
  have D__law_all_ways := ok_law_all_ways c
  refine ⟨walkD F sc_law_other (fun vs H Q E h => ?_) (fun cdv A outer s H vs Q E hr h => ?_) fun _ _ _ _ _ _ us hl => match us, hl with | [_], _ => rfl, c.m__law_other, F.kp⟩
  · obtain ⟨a, b, rfl, _⟩ := h
    rfl
  · obtain ⟨a, ws, rfl, h1, Qk⟩ := h
    refine ⟨_, (pss_one (ps_ret (pe_lc rfl sc_law_other.nd (pi_list_k (K0 := K) (by rfl) (D__law_all_ways.call0 (hr.mono (by decide)) rfl)) (blkOk_by (own := [("_law_name", 1)]) (by show blkC ["_law_ways", "_law_name"] (defScope s_law_other) _ _ = true; decide +kernel)) (fun _ _ _ _ _ => (pg_name (i := 1) sc_law_other.nd rfl (by first | exact Or.inl rfl | exact Or.inr rfl))) (fun _ _ _ _ _ => (pts_one (pt_cmpR (op_notIn_seq_k (K0 := K) (by rfl)) (pv 1) (pv 0) (by rfl)))) (fun _ _ _ _ _ => (pv 1))))), ?_⟩
    refine ⟨rfl, fun u hu => ⟨u, rfl, ⟨_, .inl (.inl upd_same)⟩, fun D hD => ?_⟩⟩
    have s1 : Same H (upd H u (.lst (wsV allW))) := same_upd hu
    refine lc_accL (accF allW (fun x => !inV (.str (nmW x)) (wsV ws)) fun x => V.str (nmW x)) (.inl (.inl upd_same)) (by decide) hD rfl (fun i x H' hx sm _ K1 K0 k1 k0 => ?_) fun H' sm e => ?_
    · obtain ⟨z, hz, rfl⟩ : ∃ z, allW[i]? = some z ∧ V.str (nmW z) = x := by
        rw [List.getElem?_map, List.getElem?_map, Option.map_map] at hx
        exact Option.map_eq_some_iff.mp hx
      refine ⟨rfl, _, rfl, _, rfl, a, _, rfl, .inl (.inl (.inl (sm _ _ (s1 _ _ h1)))), rfl, flat_txs _, _, rfl, ?_⟩
      refine iteB (fun h => ?_) (fun h => ?_)
      · exact ⟨_, rfl, k1 _ _ (Same.refl _) (accF_yes hz h)⟩
      · exact k0 _ (Same.refl _) (accF_no hz h)
    · rw [accF_all (by decide)] at e
      refine Qk D H' (allW.filter fun x => !inV (.str (nmW x)) (wsV ws)) ?_ (Nat.le_trans (List.length_filter_le _ _) (by decide)) (s1.trans sm)
      rw [e]
      show _ = some (HO.lst (List.map V.str (List.map nmW _)))
      rw [List.map_map]
      rfl
def spWaysDrawn (K : PySem.W.Frag) : Sp := fun vs H Q _ => ∃ (p l : Addr) (cs : List Int), vs = [.ref p] ∧ BagAt K p l cs H ∧ ∀ a H' us, H' a = some (.lst (wsV us)) → us.length ≤ 7 → H a = none → BagAt K p l cs H' → But p H H' → Q (.ref a) H'
theorem sc_law_ways_drawn : FnScope ["_law_bag_here", "_law_name"] ["_law_bag_here"] (defScope s_law_ways_drawn) := ⟨rfl, rfl, rfl, by decide +kernel, rfl, by decide +kernel, by decide +kernel⟩
theorem ok_law_ways_drawn (c : Cy w K mg base) : Dn PG w K mg base "_law_ways_drawn" 2 ["_law_bag_here"] (spWaysDrawn K) := by
  obtain ⟨fd, F⟩ := c.fd_law_ways_drawn
  have D__law_all_ways := ok_law_all_ways c
  have D__law_take := ok_law_take c
  refine ⟨walkD F sc_law_ways_drawn (fun vs H Q E h => ?_) (fun cdv A outer s H vs Q E hr h => ?_) fun _ _ _ _ _ _ us hl => match us, hl with | [_], _ => rfl, c.m__law_ways_drawn, F.kp⟩
  · obtain ⟨a, _, _, rfl, _⟩ := h
    rfl
  · obtain ⟨p, l, cs, rfl, hb, Qk⟩ := h
    refine ⟨_, (pss_one (ps_ret (pe_lc rfl sc_law_ways_drawn.nd (pi_list_k (K0 := K) (by rfl) (D__law_all_ways.call0 (hr.mono (by decide)) rfl)) (blkOk_by (own := [("_law_name", 1)]) (by show blkC ["_law_bag_here", "_law_name"] (defScope s_law_ways_drawn) _ _ = true; decide +kernel)) (fun _ _ _ _ _ => (pg_name (i := 1) sc_law_ways_drawn.nd rfl (by first | exact Or.inl rfl | exact Or.inr rfl))) (fun _ _ _ _ _ => (pts_one (pt_cmpR op_eq (D__law_take.call (hr.mono (by decide)) rfl (pa_cons (pv 0) (pa_cons pe_int pa_nil))) pe_int (nomark _)))) (fun _ _ _ _ _ => (pv 1))))), ?_⟩
    refine ⟨rfl, fun u hu => ⟨u, rfl, ⟨_, .inl (.inl upd_same)⟩, fun D hD => ?_⟩⟩
    have s1 : Same H (upd H u (.lst (wsV allW))) := same_upd hu
    have hb1 := hb.same s1
    have nup : u ≠ p := hb.ne hu
    have nDp : D ≠ p := hb1.ne hD
    generalize hH1 : upd H u (.lst (wsV allW)) = H1 at s1 hb1 hD ⊢
    have e1 : H1 u = some (.lst (wsV allW)) := by rw [← hH1, upd_same]
    refine lc_list (K := K) (a := u) (xs := wsV allW) (fun i H' => BagAt K p l cs H' ∧ But p H1 H' ∧ ∃ us, H' D = some (.lst (wsV us)) ∧ us.length ≤ i)
      ⟨hb1.same (same_upd hD), But.of_same (same_upd hD), [], by rw [upd_same]; rfl, Nat.le_refl _⟩ (fun i H' _ ⟨_, e, _⟩ => .inl (.inl (e _ _ e1 nup))) (fun i x H' hx ⟨g1, g2, us, g3, g4⟩ => ?_) fun H' ⟨g1, g2, us, g3, g4⟩ => ?_
    · obtain ⟨z, hz, rfl⟩ : ∃ z, allW[i]? = some z ∧ V.str (nmW z) = x := by
        rw [List.getElem?_map, List.getElem?_map, Option.map_map] at hx
        exact Option.map_eq_some_iff.mp hx
      have hi7 : i < 7 := (List.getElem?_eq_some_iff.mp hz).1
      refine ⟨rfl, _, rfl, p, l, cs, 2, rfl, g1, by decide, by decide, fun d H2 hd hb2 bt => ⟨rfl, _, rfl, ?_⟩⟩
      refine iteI (fun h => ?_) (fun h => ?_)
      · refine ⟨_, rfl, wsV us, bt _ _ g3 nDp, Nat.lt_of_le_of_lt (m := 7) (by rw [List.length_map, List.length_map]; omega) (by decide), hb1.store hb2 (g2.trans bt) hD, (g2.trans bt).store hD, us ++ [z], ?_, by rw [List.length_append]; simp; omega⟩
        rw [upd_same]
        unfold wsV txs
        rw [List.map_append, List.map_append]
        rfl
      · exact ⟨hb2, g2.trans bt, us, bt _ _ g3 nDp, by omega⟩
    · exact Qk D H' us g3 g4 (s1.free hD) g1 ((But.of_same s1).trans g2)
def spBow1 (K : PySem.W.Frag) : Sp := fun vs H Q _ => ∃ (p l : Addr) (cs : List Int) (m : Nat), vs = [.ref p, .int m] ∧ BagAt K p l cs H ∧ 2 ≤ m ∧ m ≤ 1000 ∧ ∀ t H' (x y : Nat), x < y → y < m → H t = none → H' t = some (.tup [.int x, .int y]) → BagAt K p l cs H' → But p H H' → Q (.ref t) H'
theorem sc_law_bow : FnScope ["_law_bag_here", "_law_places", "_law_begin"] ["_law_bag_here", "_law_places"] (defScope s_law_bow) := ⟨rfl, rfl, rfl, by decide +kernel, rfl, by decide +kernel, by decide +kernel⟩
theorem ok_law_bow (c : Cy w K mg base) : Dn PG w K mg base "_law_bow" 2 ["_law_bag_here", "_law_places"] (spBow1 K) := by
  obtain ⟨fd, F⟩ := c.fd_law_bow
  have D__law_take := ok_law_take c
  refine ⟨walkD F sc_law_bow (fun vs H Q E h => ?_) (fun cdv A outer s H vs Q E hr h => ?_) fun _ _ _ _ _ _ us hl => match us, hl with | [_, _], _ => rfl, c.m__law_bow, F.kp⟩
  · obtain ⟨a, _, _, _, rfl, _⟩ := h
    rfl
  · obtain ⟨p, l, cs, m, rfl, hb, m1, m2, Qk⟩ := h
    refine ⟨_, (pss_cons (ps_set (i := 2) sc_law_bow.nd rfl (by first | exact Or.inl rfl | exact Or.inr rfl) (D__law_take.call (hr.mono (by decide)) rfl (pa_cons (pv 0) (pa_cons (pe_op op_sub (pv 1) pe_int) pa_nil))))
      (pss_one (ps_ret (pe_tup (pa_cons (pv 2) (pa_cons (pe_op op_add (pe_op op_add (pv 2) pe_int) (D__law_take.call (hr.mono (by decide)) rfl (pa_cons (pv 0) (pa_cons (pe_op op_sub (pe_op op_sub (pv 1) pe_int) (pv 2)) pa_nil)))) pa_nil)))))), ?_⟩
    refine ⟨_, rfl, _, rfl, _, _, rfl, rfl, p, l, cs, m - 1, by show [V.ref p, V.int ((m : Int) - 1)] = [V.ref p, V.int ((m - 1 : Nat) : Int)]; congr 3; omega, hb, by omega, by omega, fun d H1 hd hb1 bt1 => ?_⟩
    refine ⟨_, rfl, _, rfl, _, _, rfl, rfl, _, rfl, _, rfl, _, _, rfl, rfl, _, rfl, _, _, rfl, rfl, p, l, cs, m - 1 - d, by show [V.ref p, V.int ((m : Int) - 1 - (d : Int))] = [V.ref p, V.int ((m - 1 - d : Nat) : Int)]; congr 3; omega, hb1, by omega, by omega, fun d2 H2 hd2 hb2 bt2 => ?_⟩
    refine ⟨_, _, rfl, rfl, by show 2 ≤ sizeLine; decide, fun t ht => ?_⟩
    have htH : H t = none := by
      cases z : H t with
      | none => rfl
      | some o =>
        by_cases e : t = p
        · rw [e] at ht
          exact absurd rfl (hb2.ne ht)
        · have := bt2 _ _ (bt1 _ _ z e) e
          rw [ht] at this
          cases this
    refine Qk t _ d (d + 1 + d2) (by omega) (by omega) htH ?_ (hb2.same (same_upd ht)) ((bt1.trans bt2).trans (But.of_same (same_upd ht)))
    rw [upd_same]
    push_cast
    rfl
end
end Bw
end
section
set_option Elab.async false
set_option linter.all false
set_option maxRecDepth 100000
set_option maxHeartbeats 4000000
namespace Bw
open PySem PySem.Spec PyProof.Rows L2
section
variable {w : World} {K : PySem.W.Frag} {mg : Str → Option Value} {base : Heap}
/-- tracked bows -/
def Trk (H : Hp) (bs : Bs) : Prop := ∀ b ∈ bs, H b.1 = some (.tup [.int b.2.1, .int b.2.2])
theorem Trk.but {p : Addr} {H H' : Hp} {bs : Bs} {ys : List V} (bt : But p H H') (hp : H p = some (.lst ys)) (h : Trk H bs) : Trk H' bs := fun b hb => bt _ _ (h b hb) (ne_of (h b hb) hp (by intro z; cases z))
theorem Trk.same {H H' : Hp} {bs : Bs} (e : Same H H') (h : Trk H bs) : Trk H' bs := fun b hb => e _ _ (h b hb)
theorem Trk.store {H : Hp} {bs : Bs} {D : Addr} {ys zs : List V} (hD : H D = some (.lst ys)) (h : Trk H bs) : Trk (upd H D (.lst zs)) bs := fun b hb => by rw [upd_ne (ne_of (h b hb) hD (by intro z; cases z))]; exact h b hb
theorem Trk.bows {K : PySem.W.Frag} {H : Hp} {bs : Bs} (h : Trk H bs) (g : ∀ b ∈ bs, Good b.2) : BowsT K H bs := fun b hb => ⟨.inl (.inl (h b hb)), g b hb⟩
/-- small bows: over m places -/
def Small (m : Nat) (x : Bow) : Prop := 0 ≤ x.1 ∧ x.1 < x.2 ∧ x.2 < m
def spBowsD (K : PySem.W.Frag) : Sp := fun vs H Q _ => ∃ (p l : Addr) (cs : List Int) (n m : Nat), vs = [.ref p, .int n, .int m] ∧ BagAt K p l cs H ∧ n ≤ 9 ∧ 2 ≤ m ∧ m ≤ 1000 ∧
  ∀ a H' (bs : Bs), bs.length = n → H' a = some (.lst bs.vs) → Trk H' bs → (∀ b ∈ bs, Small m b.2) → H a = none → BagAt K p l cs H' → But p H H' → Q (.ref a) H'
theorem sc_law_bows : FnScope ["_law_bag_here", "_law_many", "_law_places", "_law_found", "_law_k"] ["_law_bag_here", "_law_many", "_law_places"] (defScope s_law_bows) := ⟨rfl, rfl, rfl, by decide +kernel, rfl, by decide +kernel, by decide +kernel⟩
theorem ok_law_bows (c : Cy w K mg base) : Dn PG w K mg base "_law_bows" 3 ["_law_bag_here", "_law_many", "_law_places"] (spBowsD K) := by
  obtain ⟨fd, F⟩ := c.fd_law_bows
  have D__law_take := ok_law_take c
  have D__law_bow := ok_law_bow c
  refine ⟨walkD F sc_law_bows (fun vs H Q E h => ?_) (fun cdv A outer s H vs Q E hr h => ?_) fun _ _ _ _ _ _ us hl => match us, hl with | [_, _, _], _ => rfl, c.m__law_bows, F.kp⟩
  · obtain ⟨a, _, _, _, _, rfl, _⟩ := h
    rfl
  · obtain ⟨p, l, cs, n, m, rfl, hb, hn, m1, m2, Qk⟩ := h
    refine ⟨_, (pss_cons (ps_setLc (i := 3) rfl sc_law_bows.nd rfl rfl (sw_true rfl rfl rfl (by decide +kernel)) (pi_range1 (by rfl) c.f_range (pa_cons (pv 1) pa_nil)) (blkOk_by (own := [("_law_k", 4)]) (by show blkC ["_law_bag_here", "_law_many", "_law_places", "_law_found", "_law_k"] (defScope s_law_bows) _ _ = true; decide +kernel)) (fun _ _ _ _ _ => (pg_name (i := 4) sc_law_bows.nd rfl (by first | exact Or.inl rfl | exact Or.inr rfl))) (fun _ _ _ _ _ => pts_nil) (fun _ _ _ _ _ => (D__law_bow.call (hr.mono (by decide)) rfl (pa_cons (pv 0) (pa_cons (pv 2) pa_nil)))))
      (pss_cons (ps_if (PW.pt (pw_and (pt_cmpR op_gt (pv 1) pe_int (nomark _)) (pw_and1 (pt_cmpR op_eq (D__law_take.call (hr.mono (by decide)) rfl (pa_cons (pv 0) (pa_cons pe_int pa_nil))) pe_int (nomark _))))) (pss_one (ps_asg (pe_ix (ix_list_k (K0 := K) (by rfl)) (pv 3) pe_int (fun _ _ => rfl)) (pg_sub (pv 3) (pe_un un_neg pe_int) set_list))) pss_nil)
      (pss_one (ps_ret (pv 3))))), ?_⟩
    refine ⟨_, rfl, (n : Int), rfl, by omega, by omega, fun D hD => ?_⟩
    rw [Int.toNat_natCast]
    have nDp : D ≠ p := hb.ne hD
    have big : (1000 : Nat) ≤ sizeLine := by decide
    refine lc_range (lo := 0) (n := n) (fun i H' => BagAt K p l cs H' ∧ But p H H' ∧ ∃ bs : Bs, bs.length = i ∧ H' D = some (.lst bs.vs) ∧ Trk H' bs ∧ ∀ b ∈ bs, Small m b.2)
      ⟨hb.same (same_upd hD), But.of_same (same_upd hD), [], rfl, upd_same, fun b hb => absurd hb List.not_mem_nil, fun b hb => absurd hb List.not_mem_nil⟩ (fun i H' hi ⟨g1, g2, bs, g3, g4, g5, g6⟩ => ?_) fun H' ⟨g1, g2, bs, g3, g4, g5, g6⟩ => ?_
    · refine ⟨rfl, _, rfl, _, rfl, p, l, cs, m, rfl, g1, m1, m2, fun t H2 x y xy ym ht0 ht hb2 bt => ⟨bs.vs, bt _ _ g4 nDp, by rw [List.length_map]; omega, hb.store hb2 (g2.trans bt) hD, (g2.trans bt).store hD, bs ++ [(t, ((x : Int), (y : Int)))], by rw [List.length_append, g3]; rfl, by rw [upd_same]; unfold Bs.vs; rw [List.map_append]; rfl, ?_, ?_⟩⟩
      · obtain ⟨a1, a2, a3, a4, _⟩ := id g1
        have k1 := (g5.but bt a4)
        refine Trk.store (bt _ _ g4 nDp) fun b hb => ?_
        rcases List.mem_append.mp hb with h | h
        · exact k1 b h
        · rw [List.mem_singleton.mp h]; exact ht
      · intro b hb
        rcases List.mem_append.mp hb with h | h
        · exact g6 b h
        · rw [List.mem_singleton.mp h]
          exact ⟨by show 0 ≤ (x : Int); omega, by show (x : Int) < y; omega, by show (y : Int) < m; omega⟩
    · refine ⟨_, rfl, _, _, rfl, rfl, _, rfl, iteP (fun hgt => ?_) (fun hgt => ?_)⟩
      · refine ⟨_, rfl, p, l, cs, 4, rfl, g1, by decide, by decide, fun d H2 hd hb2 bt => ⟨rfl, _, rfl, ?_⟩⟩
        obtain ⟨a1, a2, a3, a4, _⟩ := id g1
        have k1 := (g5.but bt a4)
        have g4' := bt _ _ g4 nDp
        refine iteI (fun h => ?_) (fun h => ?_)
        · have h0 : bs.vs[0]? = some (.ref (bs[0]'(by omega)).1) := by rw [List.getElem?_map, List.getElem?_eq_getElem (by omega)]; rfl
          refine ⟨_, rfl, D, _, 0, _, rfl, rfl, .inl (.inl g4'), atI_nat (j := 0) h0, _, rfl, _, rfl, D, _, _, n - 1, rfl, rfl, g4', ?_, ?_⟩
          · unfold ixN
            rw [List.length_map, g3]
            rw [if_neg (by decide), if_pos (by omega)]
            congr 1
            omega
          · have hset : bs.vs.set (n - 1) (.ref (bs[0]'(by omega)).1) = Bs.vs (bs.set (n - 1) (bs[0]'(by omega))) := by unfold Bs.vs; rw [List.map_set]
            rw [hset]
            have hmem : ∀ b ∈ bs.set (n - 1) (bs[0]'(by omega)), b ∈ bs := fun b hb => by
              rcases List.mem_or_eq_of_mem_set hb with h | h
              · exact h
              · rw [h]; exact List.getElem_mem _
            refine ⟨_, rfl, Qk D _ (bs.set (n - 1) (bs[0]'(by omega))) (by rw [List.length_set, g3]) upd_same (Trk.store g4' fun b hb => k1 b (hmem b hb)) (fun b hb => g6 b (hmem b hb)) hD (hb.store hb2 (g2.trans bt) hD) ((g2.trans bt).store hD)⟩
        · exact ⟨_, rfl, Qk D H2 bs g3 g4' k1 g6 hD hb2 (g2.trans bt)⟩
      · exact ⟨_, rfl, Qk D H' bs g3 g4 g5 g6 hD g1 g2⟩
/-- one of some -/
def spOne (K : PySem.W.Frag) : Sp := fun vs H Q _ => ∃ (p l a : Addr) (cs : List Int) (xs : List V), vs = [.ref p, .ref a] ∧ BagAt K p l cs H ∧ H a = some (.lst xs) ∧ 1 ≤ xs.length ∧ xs.length ≤ 1000 ∧ a ≠ p ∧ ∀ x H', x ∈ xs → BagAt K p l cs H' → But p H H' → Q x H'
theorem sc_law_one : FnScope ["_law_bag_here", "_law_things"] ["_law_bag_here", "_law_things"] (defScope s_law_one) := ⟨rfl, rfl, rfl, by decide +kernel, rfl, by decide +kernel, by decide +kernel⟩
theorem ok_law_one (c : Cy w K mg base) : Dn PG w K mg base "_law_one" 2 ["_law_bag_here", "_law_things"] (spOne K) := by
  obtain ⟨fd, F⟩ := c.fd_law_one
  have D__law_take := ok_law_take c
  refine ⟨walkD F sc_law_one (fun vs H Q E h => ?_) (fun cdv A outer s H vs Q E hr h => ?_) fun _ _ _ _ _ _ us hl => match us, hl with | [_, _], _ => rfl, c.m__law_one, F.kp⟩
  · obtain ⟨a, _, _, _, _, rfl, _⟩ := h
    rfl
  · obtain ⟨p, l, a, cs, xs, rfl, hb, ha, x1, x2, ne, Qk⟩ := h
    refine ⟨_, (pss_one (ps_ret (pe_ix (ix_list_k (K0 := K) (by rfl)) (pv 1) (D__law_take.call (hr.mono (by decide)) rfl (pa_cons (pv 0) (pa_cons (pe_callB (call_len_seq_k (K0 := K) (by rfl)) (by rfl) c.f_len PySem.boot_len (pa_cons (pv 1) pa_nil)) pa_nil))) (fun _ _ => rfl)))), ?_⟩
    refine ⟨_, rfl, _, rfl, _, rfl, a, xs, rfl, .inl (.inl (.inl ha)), p, l, cs, xs.length, rfl, hb, x1, x2, fun d H2 hd hb2 bt => ?_⟩
    exact ⟨a, xs, _, xs[d], rfl, rfl, .inl (.inl (bt _ _ ha ne)), atI_nat (List.getElem?_eq_getElem hd), Qk _ _ (List.getElem_mem hd) hb2 bt⟩
/-- lists of ways -/
def WsAt (H : Hp) (ps : Os) : Prop := OsAt H ps ∧ ∀ q ∈ ps, ∃ ws : List Way, q.2 = .lst (wsV ws) ∧ ws.length ≤ 7
/-- as things are laid one by one -/
def Grow (H Hc : Hp) (ps : Os) : Prop := Same H Hc ∧ WsAt Hc ps
theorem Grow.lay {H Hc : Hp} {ps : Os} {q : Addr} {o : HO} (g : Grow H Hc ps) (hq : Hc q = none) : Grow H (upd Hc q o) ps := ⟨g.1.trans (same_upd hq), g.2.1.same (same_upd hq), g.2.2⟩
theorem Grow.add {H Hc : Hp} {ps : Os} {q : Addr} (g : Grow H Hc ps) (hq : Hc q = none) (ws : List Way) (hl : ws.length ≤ 7) : Grow H (upd Hc q (.lst (wsV ws))) (ps ++ [(q, .lst (wsV ws))]) := by
  refine ⟨g.1.trans (same_upd hq), fun x hx => ?_, fun x hx => ?_⟩
  · rcases List.mem_append.mp hx with h | h
    · exact same_upd hq _ _ (g.2.1 x h)
    · rw [List.mem_singleton.mp h]; exact upd_same
  · rcases List.mem_append.mp hx with h | h
    · exact g.2.2 x h
    · rw [List.mem_singleton.mp h]; exact ⟨ws, rfl, hl⟩
def spTightSets (K : PySem.W.Frag) : Sp := fun vs H Q _ => vs = [] ∧ ∀ a H' (ps : Os), H' a = some (.lst ps.vs) → WsAt H' ps → ps.length = 14 → H a = none → Same H H' → Q (.ref a) H'
theorem sc_law_tight_sets : FnScope ["_law_found"] [] (defScope s_law_tight_sets) := ⟨rfl, rfl, rfl, by decide +kernel, rfl, by decide +kernel, by decide +kernel⟩
theorem ok_law_tight_sets (c : Cy w K mg base) : Dn PG w K mg base "_law_tight_sets" 1 [] (spTightSets K) := by
  obtain ⟨fd, F⟩ := c.fd_law_tight_sets
  refine ⟨walkD F sc_law_tight_sets (fun vs H Q E h => ?_) (fun cdv A outer s H vs Q E hr h => ?_) fun _ _ _ _ _ _ us hl => match us, hl with | [], _ => rfl, c.m__law_tight_sets, F.kp⟩
  · rw [h.1]; rfl
  · obtain ⟨rfl, Qk⟩ := h
    refine ⟨_, (pss_cons (ps_set (i := 0) sc_law_tight_sets.nd rfl (by first | exact Or.inl rfl | exact Or.inr rfl) (pe_lst (pa_cons (pe_lst pa_nil) (pa_cons (pe_lst (pa_cons pe_str pa_nil)) (pa_cons (pe_lst (pa_cons pe_str pa_nil)) (pa_cons (pe_lst (pa_cons pe_str (pa_cons pe_str pa_nil))) (pa_cons (pe_lst (pa_cons pe_str pa_nil)) (pa_cons (pe_lst (pa_cons pe_str (pa_cons pe_str pa_nil))) (pa_cons (pe_lst (pa_cons pe_str (pa_cons pe_str pa_nil))) pa_nil)))))))))
      (pss_cons (ps_set (i := 0) sc_law_tight_sets.nd rfl (by first | exact Or.inl rfl | exact Or.inr rfl) (pe_op op_cat (pv 0) (pe_lst (pa_cons (pe_lst (pa_cons pe_str (pa_cons pe_str pa_nil))) (pa_cons (pe_lst (pa_cons pe_str (pa_cons pe_str (pa_cons pe_str pa_nil)))) (pa_cons (pe_lst (pa_cons pe_str (pa_cons pe_str (pa_cons pe_str pa_nil)))) pa_nil))))))
      (pss_cons (ps_set (i := 0) sc_law_tight_sets.nd rfl (by first | exact Or.inl rfl | exact Or.inr rfl) (pe_op op_cat (pv 0) (pe_lst (pa_cons (pe_lst (pa_cons pe_str (pa_cons pe_str (pa_cons pe_str pa_nil)))) (pa_cons (pe_lst (pa_cons pe_str (pa_cons pe_str (pa_cons pe_str (pa_cons pe_str pa_nil))))) pa_nil)))))
      (pss_cons (ps_set (i := 0) sc_law_tight_sets.nd rfl (by first | exact Or.inl rfl | exact Or.inr rfl) (pe_op op_cat (pv 0) (pe_lst (pa_cons (pe_lst (pa_cons pe_str (pa_cons pe_str (pa_cons pe_str (pa_cons pe_str pa_nil))))) (pa_cons (pe_lst (pa_cons pe_str (pa_cons pe_str (pa_cons pe_str (pa_cons pe_str (pa_cons pe_str pa_nil)))))) pa_nil)))))
      (pss_one (ps_ret (pv 0))))))), ?_⟩
    have g0 : Grow H H [] := ⟨Same.refl _, fun x hx => absurd hx List.not_mem_nil, fun x hx => absurd hx List.not_mem_nil⟩
    refine ⟨by show 0 ≤ sizeLine; decide, fun l1 h1 => ⟨by show 1 ≤ sizeLine; decide, fun l2 h2 => ⟨by show 1 ≤ sizeLine; decide, fun l3 h3 => ⟨by show 2 ≤ sizeLine; decide, fun l4 h4 => ⟨by show 1 ≤ sizeLine; decide, fun l5 h5 => ⟨by show 2 ≤ sizeLine; decide, fun l6 h6 => ⟨by show 2 ≤ sizeLine; decide, fun l7 h7 => ⟨by show 7 ≤ sizeLine; decide, fun m1 hm1 => ?_⟩⟩⟩⟩⟩⟩⟩⟩
    have g1 := g0.add h1 [] (by decide)
    have g2 := g1.add h2 [.begun] (by decide)
    have g3 := g2.add h3 [.ended] (by decide)
    have g4 := g3.add h4 [.begun, .ended] (by decide)
    have g5 := g4.add h5 [.apart] (by decide)
    have g6 := g5.add h6 [.apart, .begun] (by decide)
    have g7 := g6.add h7 [.apart, .ended] (by decide)
    have q1 := g7.lay (o := .lst [V.ref l1, V.ref l2, V.ref l3, V.ref l4, V.ref l5, V.ref l6, V.ref l7]) hm1
    refine ⟨_, rfl, ⟨by show 2 ≤ sizeLine; decide, fun l8 h8 => ⟨by show 3 ≤ sizeLine; decide, fun l9 h9 => ⟨by show 3 ≤ sizeLine; decide, fun l10 h10 => ⟨by show 3 ≤ sizeLine; decide, fun m2 hm2 => ?_⟩⟩⟩⟩⟩
    have g8 := q1.add h8 [.apart, .chained] (by decide)
    have g9 := g8.add h9 [.apart, .begun, .chained] (by decide)
    have g10 := g9.add h10 [.apart, .chained, .ended] (by decide)
    have q2 := g10.lay (o := .lst [V.ref l8, V.ref l9, V.ref l10]) hm2
    refine ⟨m1, m2, [V.ref l1, V.ref l2, V.ref l3, V.ref l4, V.ref l5, V.ref l6, V.ref l7], [V.ref l8, V.ref l9, V.ref l10], rfl, rfl, ((same_upd h8).trans ((same_upd h9).trans ((same_upd h10).trans (same_upd hm2)))) _ _ upd_same, upd_same, by show 10 ≤ sizeLine; decide, fun s2 hs2 => ?_⟩
    have r2 := q2.lay (o := .lst [V.ref l1, V.ref l2, V.ref l3, V.ref l4, V.ref l5, V.ref l6, V.ref l7, V.ref l8, V.ref l9, V.ref l10]) hs2
    refine ⟨_, rfl, ⟨by show 3 ≤ sizeLine; decide, fun l11 h11 => ⟨by show 4 ≤ sizeLine; decide, fun l12 h12 => ⟨by show 2 ≤ sizeLine; decide, fun m3 hm3 => ?_⟩⟩⟩⟩
    have g11 := r2.add h11 [.apart, .chained, .crossing] (by decide)
    have g12 := g11.add h12 [.apart, .begun, .chained, .crossing] (by decide)
    have q3 := g12.lay (o := .lst [V.ref l11, V.ref l12]) hm3
    refine ⟨s2, m3, [V.ref l1, V.ref l2, V.ref l3, V.ref l4, V.ref l5, V.ref l6, V.ref l7, V.ref l8, V.ref l9, V.ref l10], [V.ref l11, V.ref l12], rfl, rfl, ((same_upd h11).trans ((same_upd h12).trans (same_upd hm3))) _ _ upd_same, upd_same, by show 12 ≤ sizeLine; decide, fun s3 hs3 => ?_⟩
    have r3 := q3.lay (o := .lst [V.ref l1, V.ref l2, V.ref l3, V.ref l4, V.ref l5, V.ref l6, V.ref l7, V.ref l8, V.ref l9, V.ref l10, V.ref l11, V.ref l12]) hs3
    refine ⟨_, rfl, ⟨by show 4 ≤ sizeLine; decide, fun l13 h13 => ⟨by show 5 ≤ sizeLine; decide, fun l14 h14 => ⟨by show 2 ≤ sizeLine; decide, fun m4 hm4 => ?_⟩⟩⟩⟩
    have g13 := r3.add h13 [.apart, .chained, .crossing, .ended] (by decide)
    have g14 := g13.add h14 [.apart, .begun, .chained, .crossing, .ended] (by decide)
    have q4 := g14.lay (o := .lst [V.ref l13, V.ref l14]) hm4
    refine ⟨s3, m4, [V.ref l1, V.ref l2, V.ref l3, V.ref l4, V.ref l5, V.ref l6, V.ref l7, V.ref l8, V.ref l9, V.ref l10, V.ref l11, V.ref l12], [V.ref l13, V.ref l14], rfl, rfl, ((same_upd h13).trans ((same_upd h14).trans (same_upd hm4))) _ _ upd_same, upd_same, by show 14 ≤ sizeLine; decide, fun s4 hs4 => ?_⟩
    have r4 := q4.lay (o := .lst [V.ref l1, V.ref l2, V.ref l3, V.ref l4, V.ref l5, V.ref l6, V.ref l7, V.ref l8, V.ref l9, V.ref l10, V.ref l11, V.ref l12, V.ref l13, V.ref l14]) hs4
    refine ⟨_, rfl, Qk s4 _ _ (upd_same.trans rfl) r4.2 rfl ?_ r4.1⟩
    exact (q4.1).free hs4
end
end Bw
end
section
set_option Elab.async false
set_option linter.all false
set_option maxRecDepth 100000
set_option maxHeartbeats 4000000
namespace Bw
open PySem PySem.Spec PyProof.Rows L2
section
variable {w : World} {K : PySem.W.Frag} {mg : Str → Option Value} {base : Heap}
theorem ways_ne_bag {ws : List Way} {a b c : Int} {l : Addr} : wsV ws ≠ [V.int a, V.int b, V.int c, V.ref l] := by
  cases ws with
  | nil => intro h; cases h
  | cons x xs => intro h; injection h with h _; cases h
/-- sorted of a list of ways -/
theorem rSorted_ws {H : Hp} {Q : VK} {a : Addr} {ws : List Way} (h : H a = some (.lst (wsV ws))) (q : ∀ r us, H r = none → us.length = ws.length → Q (.ref r) (upd H r (.lst (wsV us)))) : rSortedG K [.ref a] H Q := by
  let f : Way → V × PyData := fun x => (V.str (nmW x), PyData.str (nmW x))
  refine ⟨a, ws.map f, rfl, .inl (.inl (by rw [h, List.map_map]; show _ = some (HO.lst _); unfold wsV txs; rw [List.map_map]; rfl)), fun p hp => ?_, fun d hd d' hd' => ?_, .inr fun d hd => ?_, fun p hp => ?_, fun r hr => ?_⟩
  · obtain ⟨x, _, rfl⟩ := List.mem_map.mp hp
    exact .str _
  · rw [List.map_map] at hd hd'
    obtain ⟨x, _, rfl⟩ := List.mem_map.mp hd
    obtain ⟨y, _, rfl⟩ := List.mem_map.mp hd'
    show PySem.W.alike (.str _) (.str _) = true
    simp [PySem.W.alike]
  · rw [List.map_map] at hd
    obtain ⟨x, _, rfl⟩ := List.mem_map.mp hd
    exact ⟨(by intro z; cases z), fun xs z => by cases z⟩
  · obtain ⟨x, _, rfl⟩ := List.mem_map.mp hp
    show PyData.depth (.str _) ≤ 60
    rw [PyData.depth]
    omega
  · let rr : Way → Way → Bool := fun x y => PySem.W.dataLe false Prod.snd (f x) (f y)
    have em : (ws.map f).mergeSort (PySem.W.dataLe false Prod.snd) = (ws.mergeSort rr).map f := (List.map_mergeSort (r := rr) (s := PySem.W.dataLe false Prod.snd) (f := f) (l := ws) fun _ _ _ _ => rfl).symm
    rw [em]
    have := q r (ws.mergeSort rr) hr (List.length_mergeSort _)
    rw [List.map_map]
    unfold wsV txs at this
    rw [List.map_map] at this
    exact this
theorem rep_same (d : Nat) : wsV (List.replicate d Way.same) = List.replicate d (V.str "same") := by
  unfold wsV txs
  rw [List.map_replicate, List.map_replicate]
  rfl
theorem rep_flat (d : Nat) : (List.replicate ((d : Int)).toNat [V.str "same"]).flatten = wsV (List.replicate d Way.same) := by
  rw [Int.toNat_natCast, rep_same, List.flatten_replicate_singleton]
def spKindD (K : PySem.W.Frag) : Sp := fun vs H Q _ => ∃ (p l : Addr) (cs : List Int), vs = [.ref p] ∧ BagAt K p l cs H ∧ ∀ a H' us, H' a = some (.lst (wsV us)) → us.length ≤ 100 → H a = none → BagAt K p l cs H' → But p H H' → Q (.ref a) H'
theorem But.free {p q : Addr} {H H' : Hp} (bt : But p H H') (h : H' q = none) (ne : q ≠ p) : H q = none := by
  cases z : H q with
  | none => rfl
  | some o => rw [bt _ _ z ne] at h; cases h
theorem sc_law_tight_ways : FnScope ["_law_bag_here", "_law_found", "_law_name"] ["_law_bag_here"] (defScope s_law_tight_ways) := ⟨rfl, rfl, rfl, by decide +kernel, rfl, by decide +kernel, by decide +kernel⟩
theorem ok_law_tight_ways (c : Cy w K mg base) : Dn PG w K mg base "_law_tight_ways" 3 ["_law_bag_here"] (spKindD K) := by
  obtain ⟨fd, F⟩ := c.fd_law_tight_ways
  have D__law_take := ok_law_take c
  have D__law_one := ok_law_one c
  have D__law_tight_sets := ok_law_tight_sets c
  have D__law_other := ok_law_other c
  refine ⟨walkD F sc_law_tight_ways (fun vs H Q E h => ?_) (fun cdv A outer s H vs Q E hr h => ?_) fun _ _ _ _ _ _ us hl => match us, hl with | [_], _ => rfl, c.m__law_tight_ways, F.kp⟩
  · obtain ⟨a, _, _, rfl, _⟩ := h
    rfl
  · obtain ⟨p, l, cs, rfl, hb, Qk⟩ := h
    have b100 : (100 : Nat) ≤ sizeLine := by decide
    refine ⟨_, (pss_cons (ps_set (i := 1) sc_law_tight_ways.nd rfl (by first | exact Or.inl rfl | exact Or.inr rfl) (pe_callTy (call_list_of_k (K0 := K) (by rfl)) (by rfl) c.f_list (by decide +kernel) (pa_cons (D__law_one.call (hr.mono (by decide)) rfl (pa_cons (pv 0) (pa_cons (D__law_tight_sets.call0 (hr.mono (by decide)) rfl) pa_nil))) pa_nil)))
      (pss_cons (ps_if (pt_cmpR op_eq (D__law_take.call (hr.mono (by decide)) rfl (pa_cons (pv 0) (pa_cons pe_int pa_nil))) pe_int (nomark _)) (pss_one (ps_setLc (i := 1) rfl sc_law_tight_ways.nd rfl rfl (sw_true rfl rfl rfl (by decide +kernel)) (pi_list_k (K0 := K) (by rfl) (D__law_other.call (hr.mono (by decide)) rfl (pa_cons (pv 1) pa_nil))) (blkOk_by (own := [("_law_name", 2)]) (by show blkC ["_law_bag_here", "_law_found", "_law_name"] (defScope s_law_tight_ways) _ _ = true; decide +kernel)) (fun _ _ _ _ _ => (pg_name (i := 2) sc_law_tight_ways.nd rfl (by first | exact Or.inl rfl | exact Or.inr rfl))) (fun _ _ _ _ _ => (pts_one (pt_cmpR op_ne (pv 2) pe_str (nomark _)))) (fun _ _ _ _ _ => (pv 2)))) pss_nil)
      (pss_one (ps_ret (pe_callB (cr_sortedG_k (K0 := K) (by rfl) (hu64 hr)) (by rfl) c.f_sorted (by decide +kernel) (pa_cons (pe_op op_cat (pv 1) (pe_op op_rep (pe_lst (pa_cons pe_str pa_nil)) (D__law_take.call (hr.mono (by decide)) rfl (pa_cons (pv 0) (pa_cons pe_int pa_nil))))) pa_nil)))))), ?_⟩
    refine ⟨_, rfl, rfl, fun a H1 ps ha hw hl14 hn s1 => ⟨p, l, a, cs, ps.vs, rfl, hb.same s1, ha, by rw [List.length_map]; omega, by rw [List.length_map]; omega, hb.ne hn, fun x H2 hx hb2 bt2 => ?_⟩⟩
    obtain ⟨q, hq, rfl⟩ := List.mem_map.mp hx
    obtain ⟨ws, e1, e2⟩ := hw.2 q hq
    have hq1 : H1 q.1 = some (.lst (wsV ws)) := by rw [hw.1 q hq, e1]
    obtain ⟨a1, a2, a3, a4, _⟩ := hb.same s1
    have nqp : q.1 ≠ p := fun z => by rw [z, a4] at hq1; injection hq1 with h; injection h with h; exact ways_ne_bag h.symm
    refine ⟨q.1, _, rfl, .inl (.inl (.inl (bt2 _ _ hq1 nqp))), fun L hL => ?_⟩
    have sL : Same H2 (upd H2 L (.lst (wsV ws))) := same_upd hL
    have nLp : L ≠ p := hb2.ne hL
    have hb3 := hb2.same sL
    have bt3 : But p H (upd H2 L (.lst (wsV ws))) := ((But.of_same s1).trans bt2).trans (But.of_same sL)
    have hLH : H L = none := ((But.of_same s1).trans bt2).free hL nLp
    have eL : (upd H2 L (.lst (wsV ws))) L = some (.lst (wsV ws)) := upd_same
    generalize upd H2 L (.lst (wsV ws)) = H3 at hb3 bt3 eL ⊢
    refine ⟨_, rfl, p, l, cs, 2, rfl, hb3, by decide, by decide, fun d H4 hd hb4 bt4 => ⟨rfl, _, rfl, ?_⟩⟩
    have eL4 := bt4 _ _ eL nLp
    have bt04 := bt3.trans bt4
    refine iteI (fun h => ?_) (fun h => ?_)
    · refine ⟨_, rfl, L, ws, rfl, eL4, fun B H5 us hB hus s5 => ⟨B, rfl, ⟨_, .inl (.inl hB)⟩, fun D hD => ?_⟩⟩
      have bt05 := bt04.trans (But.of_same s5)
      have hb5 := hb4.same s5
      refine lc_accL (accF us (fun x => !decide (nmW x = "same")) fun x => V.str (nmW x)) (.inl (.inl hB)) (by rw [List.length_map, List.length_map]; omega) hD rfl (fun i x H' hx sm _ K1 K0 k1 k0 => ?_) fun H' sm e => ?_
      · obtain ⟨z, hz, rfl⟩ : ∃ z, us[i]? = some z ∧ V.str (nmW z) = x := by
          rw [List.getElem?_map, List.getElem?_map, Option.map_map] at hx
          exact Option.map_eq_some_iff.mp hx
        refine ⟨rfl, _, rfl, rfl, _, rfl, ?_⟩
        have eb : (!decide (V.str (nmW z) = V.str "same")) = (!decide (nmW z = "same")) := by congr 1; exact decide_eq_decide.mpr ⟨fun h => by injection h, fun h => by rw [h]⟩
        show if (!decide (V.str (nmW z) = V.str "same")) = true then _ else _
        rw [eb]
        refine iteB (fun h => ?_) (fun h => ?_)
        · exact ⟨_, rfl, k1 _ _ (Same.refl _) (accF_yes hz h)⟩
        · exact k0 _ (Same.refl _) (accF_no hz h)
      · rw [accF_all (by rw [List.length_map, List.length_map])] at e
        generalize hus' : us.filter (fun x => !decide (nmW x = "same")) = us' at e
        have lus : us'.length ≤ 7 := by rw [← hus']; exact Nat.le_trans (List.length_filter_le _ _) hus
        have e' : H' D = some (.lst (wsV us')) := by rw [e]; unfold wsV txs; rw [List.map_map]; rfl
        have hbD := hb5.same sm
        have btD := bt05.trans (But.of_same sm)
        have nDp : D ≠ p := hb5.ne hD
        have hws := e'
        have lws := lus
        refine ⟨_, rfl, by show 1 ≤ sizeLine; decide, fun u hu => ?_⟩
        have su : Same H' (upd H' u (.lst [V.str "same"])) := same_upd hu
        have hbu := hbD.same su
        have nup : u ≠ p := hbD.ne hu
        have huH : H u = none := btD.free hu nup
        have eu : (upd H' u (.lst [V.str "same"])) u = some (.lst [V.str "same"]) := upd_same
        have eDu := su _ _ e'
        have btu := btD.trans (But.of_same su)
        generalize upd H' u (.lst [V.str "same"]) = H6 at hbu eu eDu btu ⊢
        refine ⟨_, rfl, p, l, cs, 2, rfl, hbu, by decide, by decide, fun d2 H7 hd2 hb7 bt7 => ?_⟩
        have eu7 := bt7 _ _ eu nup
        have eD7 := bt7 _ _ eDu nDp
        refine ⟨u, d2, _, rfl, rfl, eu7, by omega, by omega, by rw [Int.toNat_natCast]; show 1 * d2 ≤ sizeLine; omega, fun v hv => ?_⟩
        rw [rep_flat]
        have sv := same_upd (o := .lst (wsV (List.replicate d2 Way.same))) hv
        refine ⟨D, v, _, _, rfl, rfl, sv _ _ eD7, upd_same, by simp only [List.length_map, List.length_replicate]; omega, fun r hr9 => ?_⟩
        have hbv := hb7.same sv
        have nrp : r ≠ p := hbv.ne hr9
        have btv := (btu.trans bt7).trans (But.of_same sv)
        have s9 := same_upd (o := .lst (wsV us' ++ wsV (List.replicate d2 Way.same))) hr9
        have hcat : upd (upd H7 v (.lst (wsV (List.replicate d2 Way.same)))) r (.lst (wsV us' ++ wsV (List.replicate d2 Way.same))) r = some (.lst (wsV (us' ++ List.replicate d2 Way.same))) := by
          rw [upd_same]
          unfold wsV txs
          rw [List.map_append, List.map_append]
        refine rSorted_ws hcat fun r2 vs2 hr2 hl2 => ?_
        have hb9 := hbv.same s9
        have bt9 := btv.trans (But.of_same s9)
        refine Qk r2 _ vs2 upd_same (by rw [hl2, List.length_append, List.length_replicate]; omega) (bt9.free hr2 (hb9.ne hr2)) (hb9.same (same_upd hr2)) (bt9.trans (But.of_same (same_upd hr2)))
    · have hbD := hb4
      have btD := bt04
      have e' := eL4
      have nDp := nLp
      have lus := e2
      refine ⟨_, rfl, by show 1 ≤ sizeLine; decide, fun u hu => ?_⟩
      have su : Same H4 (upd H4 u (.lst [V.str "same"])) := same_upd hu
      have hbu := hbD.same su
      have nup : u ≠ p := hbD.ne hu
      have huH : H u = none := btD.free hu nup
      have eu : (upd H4 u (.lst [V.str "same"])) u = some (.lst [V.str "same"]) := upd_same
      have eDu := su _ _ e'
      have btu := btD.trans (But.of_same su)
      generalize upd H4 u (.lst [V.str "same"]) = H6 at hbu eu eDu btu ⊢
      refine ⟨_, rfl, p, l, cs, 2, rfl, hbu, by decide, by decide, fun d2 H7 hd2 hb7 bt7 => ?_⟩
      have eu7 := bt7 _ _ eu nup
      have eD7 := bt7 _ _ eDu nDp
      refine ⟨u, d2, _, rfl, rfl, eu7, by omega, by omega, by rw [Int.toNat_natCast]; show 1 * d2 ≤ sizeLine; omega, fun v hv => ?_⟩
      rw [rep_flat]
      have sv := same_upd (o := .lst (wsV (List.replicate d2 Way.same))) hv
      refine ⟨L, v, _, _, rfl, rfl, sv _ _ eD7, upd_same, by simp only [List.length_map, List.length_replicate]; omega, fun r hr9 => ?_⟩
      have hbv := hb7.same sv
      have nrp : r ≠ p := hbv.ne hr9
      have btv := (btu.trans bt7).trans (But.of_same sv)
      have s9 := same_upd (o := .lst (wsV ws ++ wsV (List.replicate d2 Way.same))) hr9
      have hcat : upd (upd H7 v (.lst (wsV (List.replicate d2 Way.same)))) r (.lst (wsV ws ++ wsV (List.replicate d2 Way.same))) r = some (.lst (wsV (ws ++ List.replicate d2 Way.same))) := by
        rw [upd_same]
        unfold wsV txs
        rw [List.map_append, List.map_append]
      refine rSorted_ws hcat fun r2 vs2 hr2 hl2 => ?_
      have hb9 := hbv.same s9
      have bt9 := btv.trans (But.of_same s9)
      refine Qk r2 _ vs2 upd_same (by rw [hl2, List.length_append, List.length_replicate]; omega) (bt9.free hr2 (hb9.ne hr2)) (hb9.same (same_upd hr2)) (bt9.trans (But.of_same (same_upd hr2)))
theorem sc_law_kind_drawn : FnScope ["_law_bag_here"] ["_law_bag_here"] (defScope s_law_kind_drawn) := ⟨rfl, rfl, rfl, by decide +kernel, rfl, by decide +kernel, by decide +kernel⟩
theorem ok_law_kind_drawn (c : Cy w K mg base) : Dn PG w K mg base "_law_kind_drawn" 4 ["_law_bag_here"] (spKindD K) := by
  obtain ⟨fd, F⟩ := c.fd_law_kind_drawn
  have D__law_take := ok_law_take c
  have D__law_ways_drawn := ok_law_ways_drawn c
  have D__law_tight_ways := ok_law_tight_ways c
  refine ⟨walkD F sc_law_kind_drawn (fun vs H Q E h => ?_) (fun cdv A outer s H vs Q E hr h => ?_) fun _ _ _ _ _ _ us hl => match us, hl with | [_], _ => rfl, c.m__law_kind_drawn, F.kp⟩
  · obtain ⟨a, _, _, rfl, _⟩ := h
    rfl
  · obtain ⟨p, l, cs, rfl, hb, Qk⟩ := h
    refine ⟨_, (pss_one (ps_ret (pe_ifExp (pt_cmpR op_eq (D__law_take.call (hr.mono (by decide)) rfl (pa_cons (pv 0) (pa_cons pe_int pa_nil))) pe_int (nomark _)) (D__law_ways_drawn.call (hr.mono (by decide)) rfl (pa_cons (pv 0) pa_nil)) (D__law_tight_ways.call (hr.mono (by decide)) rfl (pa_cons (pv 0) pa_nil))))), ?_⟩
    refine ⟨_, rfl, p, l, cs, 2, rfl, hb, by decide, by decide, fun d H4 hd hb4 bt4 => ⟨rfl, _, rfl, ?_⟩⟩
    have fr : ∀ a, H4 a = none → H a = none := fun a ha => bt4.free ha (hb4.ne ha)
    refine iteI (fun h => ?_) (fun h => ?_)
    · exact ⟨_, rfl, p, l, cs, rfl, hb4, fun a H' us h1 h2 h3 h4 h5 => Qk a H' us h1 (by omega) (fr a h3) h4 (bt4.trans h5)⟩
    · exact ⟨_, rfl, p, l, cs, rfl, hb4, fun a H' us h1 h2 h3 h4 h5 => Qk a H' us h1 h2 (fr a h3) h4 (bt4.trans h5)⟩
end
end Bw
end
section
set_option Elab.async false
set_option linter.all false
set_option maxRecDepth 100000
set_option maxHeartbeats 4000000
namespace Bw
open PySem PySem.Spec PyProof.Rows L2
section
variable {w : World} {K : PySem.W.Frag} {mg : Str → Option Value} {base : Heap}
theorem spread_lc {a D : Addr} {bs : Bs} {te : TE} {σ : L2.St} {H1 : Hp} {Qd : Hp → Prop} {p x2 x3 : Option V} {pa : V} (f : Int → Int) (hσ : σ = [p, some pa, x2, x3, none, none]) (hl : H1 a = some (.lst bs.vs)) (tr : Trk H1 bs) (hlen : bs.length ≤ 1000) (hD : H1 D = none)
    (hte : ∀ (b : Addr × Bow) (H : Hp) (Q' : V → Hp → Prop), b ∈ bs → (∀ t, H t = none → Q' (.ref t) (upd H t (.tup [.int (f b.2.1), .int (f b.2.2)]))) → te [p, some pa, x2, x3, some (.int b.2.1), some (.int b.2.2)] H Q')
    (hd : ∀ H (bs' : Bs), Same H1 H → H D = some (.lst bs'.vs) → bs'.length = bs.length → Trk H bs' → (∀ b ∈ bs', ∃ b0 ∈ bs, b.2 = (f b0.2.1, f b0.2.2)) → Qd H) :
    ∃ W : Nat → Nat → Hp → Prop, (∃ m, W 0 m (upd H1 D (.lst []))) ∧ ∀ i m H, W i m H →
      ((Itl K a).stop i H ∧ Qd H) ∨ ((Itl K a).go i H ∧ ∃ Nx : Hp → Prop, (∀ H', Nx H' → ∃ m', m' < m ∧ W (i + 1) m' H') ∧ ∀ x H', (Itl K a).yld i H x H' → (gTup K 2 (gCons (gName 4) (gCons (gName 5) gNil))) x (wipe σ [4, 5]) H' fun σ2 H2 => wipe σ2 [4, 5] = wipe σ [4, 5] ∧ tYes σ2 H2 fun b H3 =>
        if b = true then te σ2 H3 fun y H4 => ∃ acc, H4 D = some (.lst acc) ∧ acc.length < sizeLine ∧ Nx (upd H4 D (.lst (acc ++ [y]))) else Nx H3) := by
  subst hσ
  have b1000 : (1000 : Nat) < sizeLine := by decide
  refine lc_list (K := K) (a := a) (xs := bs.vs) (fun i H' => Same H1 H' ∧ ∃ bs' : Bs, H' D = some (.lst bs'.vs) ∧ bs'.length = i ∧ Trk H' bs' ∧ ∀ b ∈ bs', ∃ b0 ∈ bs, b.2 = (f b0.2.1, f b0.2.2))
    ⟨same_upd hD, [], upd_same, rfl, fun b hb => absurd hb List.not_mem_nil, fun b hb => absurd hb List.not_mem_nil⟩ (fun i H' _ ⟨sm, _⟩ => .inl (.inl (sm _ _ hl))) (fun i x H' hx ⟨sm, bs', g1, g2, g3, g4⟩ => ?_) fun H' ⟨sm, bs', g1, g2, g3, g4⟩ => hd H' bs' sm g1 (by rw [g2, List.length_map]) g3 g4
  obtain ⟨b, hb0, rfl⟩ : ∃ b, bs[i]? = some b ∧ V.ref b.1 = x := by rw [List.getElem?_map] at hx; exact Option.map_eq_some_iff.mp hx
  have hbm := List.mem_of_getElem? hb0
  have hil := (List.getElem?_eq_some_iff.mp hb0).1
  refine ⟨b.1, _, rfl, .inl (.inl (sm _ _ (tr b hbm))), rfl, _, _, rfl, _, _, rfl, rfl, rfl, ?_⟩
  refine hte b H' _ hbm fun t ht => ?_
  have st := same_upd (o := .tup [.int (f b.2.1), .int (f b.2.2)]) ht
  refine ⟨bs'.vs, st _ _ g1, by rw [List.length_map]; omega, fun c o hc => ?_, bs' ++ [(t, (f b.2.1, f b.2.2))], by rw [upd_same]; unfold Bs.vs; rw [List.map_append]; rfl, by rw [List.length_append, g2]; rfl, Trk.store (st _ _ g1) fun c hc => ?_, fun c hc => ?_⟩
  · rw [upd_ne (ne_of_none hc hD)]
    exact st _ _ (sm _ _ hc)
  · rcases List.mem_append.mp hc with h | h
    · exact st _ _ (g3 c h)
    · rw [List.mem_singleton.mp h]; exact upd_same
  · rcases List.mem_append.mp hc with h | h
    · exact g4 c h
    · rw [List.mem_singleton.mp h]; exact ⟨b, hbm, rfl⟩
def spSpread (K : PySem.W.Frag) : Sp := fun vs H Q _ => ∃ (p l a : Addr) (cs : List Int) (bs : Bs), vs = [.ref p, .ref a] ∧ BagAt K p l cs H ∧ H a = some (.lst bs.vs) ∧ Trk H bs ∧ (∀ b ∈ bs, Small 30 b.2) ∧ bs.length ≤ 9 ∧ a ≠ p ∧
  ∀ r H' (bs' : Bs), bs'.length = bs.length → H' r = some (.lst bs'.vs) → Trk H' bs' → (∀ b ∈ bs', Good b.2) → H r = none → BagAt K p l cs H' → But p H H' → Q (.ref r) H'
theorem sc_law_spread : FnScope ["_law_bag_here", "_law_bows_here", "_law_way", "_law_by", "_law_begin", "_law_end"] ["_law_bag_here", "_law_bows_here"] (defScope s_law_spread) := ⟨rfl, rfl, rfl, by decide +kernel, rfl, by decide +kernel, by decide +kernel⟩
theorem ok_law_spread (c : Cy w K mg base) : Dn PG w K mg base "_law_spread" 2 ["_law_bag_here", "_law_bows_here"] (spSpread K) := by
  obtain ⟨fd, F⟩ := c.fd_law_spread
  have D__law_take := ok_law_take c
  refine ⟨walkD F sc_law_spread (fun vs H Q E h => ?_) (fun cdv A outer s H vs Q E hr h => ?_) fun _ _ _ _ _ _ us hl => match us, hl with | [_, _], _ => rfl, c.m__law_spread, F.kp⟩
  · obtain ⟨a, _, _, _, _, rfl, _⟩ := h
    rfl
  · obtain ⟨p, l, a, cs, bs, rfl, hb, ha, tr, hsm, hlen, nap, Qk⟩ := h
    refine ⟨_, (pss_cons (ps_set (i := 2) sc_law_spread.nd rfl (by first | exact Or.inl rfl | exact Or.inr rfl) (D__law_take.call (hr.mono (by decide)) rfl (pa_cons (pv 0) (pa_cons pe_int pa_nil))))
      (pss_cons (ps_if (pt_cmpR op_eq (pv 2) pe_int (nomark _)) (pss_one (ps_ret (pe_lc rfl sc_law_spread.nd (pi_list_k (K0 := K) (by rfl) (pv 1)) (blkOk_by (own := [("_law_begin", 4), ("_law_end", 5)]) (by show blkC ["_law_bag_here", "_law_bows_here", "_law_way", "_law_by", "_law_begin", "_law_end"] (defScope s_law_spread) _ _ = true; decide +kernel)) (fun _ _ _ _ _ => (pg_tup_k (K0 := K) (n := 2) (by rfl) (by rfl) (pgs_cons (pg_name (i := 4) sc_law_spread.nd rfl (by first | exact Or.inl rfl | exact Or.inr rfl)) (pgs_cons (pg_name (i := 5) sc_law_spread.nd rfl (by first | exact Or.inl rfl | exact Or.inr rfl)) pgs_nil)))) (fun _ _ _ _ _ => pts_nil) (fun _ _ _ _ _ => (pe_tup (pa_cons (pe_op op_sub (pe_op op_mul (pe_op op_pow pe_int pe_int) (pv 4)) (pe_op op_pow pe_int pe_int)) (pa_cons (pe_op op_sub (pe_op op_mul (pe_op op_pow pe_int pe_int) (pv 5)) (pe_op op_pow pe_int pe_int)) pa_nil))))))) pss_nil)
      (pss_cons (ps_if (pt_cmpR op_eq (pv 2) pe_int (nomark _)) (pss_one (ps_ret (pe_lc rfl sc_law_spread.nd (pi_list_k (K0 := K) (by rfl) (pv 1)) (blkOk_by (own := [("_law_begin", 4), ("_law_end", 5)]) (by show blkC ["_law_bag_here", "_law_bows_here", "_law_way", "_law_by", "_law_begin", "_law_end"] (defScope s_law_spread) _ _ = true; decide +kernel)) (fun _ _ _ _ _ => (pg_tup_k (K0 := K) (n := 2) (by rfl) (by rfl) (pgs_cons (pg_name (i := 4) sc_law_spread.nd rfl (by first | exact Or.inl rfl | exact Or.inr rfl)) (pgs_cons (pg_name (i := 5) sc_law_spread.nd rfl (by first | exact Or.inl rfl | exact Or.inr rfl)) pgs_nil)))) (fun _ _ _ _ _ => pts_nil) (fun _ _ _ _ _ => (pe_tup (pa_cons (pe_op op_sub (pe_op op_mul (pv 4) (pv 4)) pe_int) (pa_cons (pe_op op_sub (pe_op op_mul (pv 5) (pv 5)) pe_int) pa_nil))))))) pss_nil)
      (pss_cons (ps_if (pt_cmpR op_eq (pv 2) pe_int (nomark _)) (pss_one (ps_ret (pe_lc rfl sc_law_spread.nd (pi_list_k (K0 := K) (by rfl) (pv 1)) (blkOk_by (own := [("_law_begin", 4), ("_law_end", 5)]) (by show blkC ["_law_bag_here", "_law_bows_here", "_law_way", "_law_by", "_law_begin", "_law_end"] (defScope s_law_spread) _ _ = true; decide +kernel)) (fun _ _ _ _ _ => (pg_tup_k (K0 := K) (n := 2) (by rfl) (by rfl) (pgs_cons (pg_name (i := 4) sc_law_spread.nd rfl (by first | exact Or.inl rfl | exact Or.inr rfl)) (pgs_cons (pg_name (i := 5) sc_law_spread.nd rfl (by first | exact Or.inl rfl | exact Or.inr rfl)) pgs_nil)))) (fun _ _ _ _ _ => pts_nil) (fun _ _ _ _ _ => (pe_tup (pa_cons (pe_op op_add (pv 4) (pe_op op_mul (pe_op op_fdivN (pv 4) pe_int) (pe_op op_pow pe_int pe_int))) (pa_cons (pe_op op_add (pv 5) (pe_op op_mul (pe_op op_fdivN (pv 5) pe_int) (pe_op op_pow pe_int pe_int))) pa_nil))))))) pss_nil)
      (pss_cons (ps_set (i := 3) sc_law_spread.nd rfl (by first | exact Or.inl rfl | exact Or.inr rfl) (pe_ix (ix_list_k (K0 := K) (by rfl)) (pe_lst (pa_cons pe_int (pa_cons pe_int (pa_cons pe_int pa_nil)))) (pe_op op_sub (pv 2) pe_int) (fun _ _ => rfl)))
      (pss_one (ps_ret (pe_lc rfl sc_law_spread.nd (pi_list_k (K0 := K) (by rfl) (pv 1)) (blkOk_by (own := [("_law_begin", 4), ("_law_end", 5)]) (by show blkC ["_law_bag_here", "_law_bows_here", "_law_way", "_law_by", "_law_begin", "_law_end"] (defScope s_law_spread) _ _ = true; decide +kernel)) (fun _ _ _ _ _ => (pg_tup_k (K0 := K) (n := 2) (by rfl) (by rfl) (pgs_cons (pg_name (i := 4) sc_law_spread.nd rfl (by first | exact Or.inl rfl | exact Or.inr rfl)) (pgs_cons (pg_name (i := 5) sc_law_spread.nd rfl (by first | exact Or.inl rfl | exact Or.inr rfl)) pgs_nil)))) (fun _ _ _ _ _ => pts_nil) (fun _ _ _ _ _ => (pe_tup (pa_cons (pe_op op_sub (pv 4) (pv 3)) (pa_cons (pe_op op_sub (pv 5) (pv 3)) pa_nil)))))))))))), ?_⟩
    refine ⟨_, rfl, p, l, cs, 6, rfl, hb, by decide, by decide, fun d H1 hd hb1 bt1 => ?_⟩
    obtain ⟨a1, a2, a3, a4, _⟩ := id hb
    have ha1 := bt1 _ _ ha nap
    have tr1 := tr.but bt1 a4
    have fin : ∀ (D : Addr) (H2 : Hp) (bs' : Bs) (f : Int → Int), H1 D = none → Same H1 H2 → H2 D = some (.lst bs'.vs) → bs'.length = bs.length → Trk H2 bs' → (∀ b ∈ bs', ∃ b0 ∈ bs, b.2 = (f b0.2.1, f b0.2.2)) → (∀ x : Bow, Small 30 x → Good (f x.1, f x.2)) → Q (.ref D) H2 := fun D H2 bs' f hD s2 e1 e2 e3 e4 hf =>
      Qk D H2 bs' e2 e1 e3 (fun b hb => by obtain ⟨b0, m0, e⟩ := e4 b hb; rw [e]; exact hf _ (hsm b0 m0)) (bt1.free hD (hb1.ne hD)) (hb1.same s2) (bt1.trans (But.of_same s2))
    refine ⟨_, rfl, rfl, _, rfl, iteI (fun h => ?_) (fun h => ?_)⟩
    · refine ⟨_, rfl, a, rfl, ⟨_, .inl (.inl ha1)⟩, fun D hD => ?_⟩
      refine spread_lc (fun x => 10 ^ 25 * x - 10 ^ 29) rfl ha1 tr1 (by omega) hD (fun b H' Q' hb' k => ?_) fun H2 bs' s2 e1 e2 e3 e4 => fin D H2 bs' (fun x => 10 ^ 25 * x - 10 ^ 29) hD s2 e1 e2 e3 e4 fun x hx => ?_
      · obtain ⟨x1, x2, x3⟩ := hsm b hb'
        exact ⟨_, _, rfl, rfl, ⟨by decide, by decide, by decide⟩, _, rfl, _, _, rfl, rfl, .inr ⟨by omega, by omega⟩, _, _, rfl, rfl, ⟨by decide, by decide, by decide⟩, _, _, rfl, rfl,
          _, _, rfl, rfl, ⟨by decide, by decide, by decide⟩, _, rfl, _, _, rfl, rfl, .inr ⟨by omega, by omega⟩, _, _, rfl, rfl, ⟨by decide, by decide, by decide⟩, _, _, rfl, rfl, by show 2 ≤ sizeLine; decide, fun t ht => k t ht⟩
      · obtain ⟨x1, x2, x3⟩ := hx
        exact ⟨⟨by dsimp only; omega, by dsimp only; omega⟩, ⟨by dsimp only; omega, by dsimp only; omega⟩, by dsimp only; omega⟩
    · refine ⟨_, rfl, rfl, _, rfl, iteI (fun h => ?_) (fun h => ?_)⟩
      · refine ⟨_, rfl, a, rfl, ⟨_, .inl (.inl ha1)⟩, fun D hD => ?_⟩
        refine spread_lc (fun x => x * x - 50) rfl ha1 tr1 (by omega) hD (fun b H' Q' hb' k => ?_) fun H2 bs' s2 e1 e2 e3 e4 => fin D H2 bs' (fun x => x * x - 50) hD s2 e1 e2 e3 e4 fun x hx => ?_
        · obtain ⟨x1, x2, x3⟩ := hsm b hb'
          exact ⟨_, rfl, _, rfl, _, _, rfl, rfl, .inl ⟨by omega, by omega⟩, _, _, rfl, rfl, _, rfl, _, rfl, _, _, rfl, rfl, .inl ⟨by omega, by omega⟩, _, _, rfl, rfl, by show 2 ≤ sizeLine; decide, fun t ht => k t ht⟩
        · obtain ⟨x1, x2, x3⟩ := hx
          have h1 : x.1 * x.1 ≤ 29 * 29 := Int.mul_le_mul (by omega) (by omega) (by omega) (by omega)
          have h2 : x.2 * x.2 ≤ 29 * 29 := Int.mul_le_mul (by omega) (by omega) (by omega) (by omega)
          have h3 : 0 ≤ x.1 * x.1 := Int.mul_nonneg (by omega) (by omega)
          have h5 : x.1 * x.1 ≤ x.1 * x.2 := Int.mul_le_mul_of_nonneg_left (by omega) (by omega)
          have h6 : x.1 * x.2 < x.2 * x.2 := Int.mul_lt_mul_of_pos_right (by omega) (by omega)
          refine ⟨⟨?_, ?_⟩, ⟨?_, ?_⟩, ?_⟩ <;> dsimp only <;> omega
      · refine ⟨_, rfl, rfl, _, rfl, iteI (fun h => ?_) (fun h => ?_)⟩
        · refine ⟨_, rfl, a, rfl, ⟨_, .inl (.inl ha1)⟩, fun D hD => ?_⟩
          refine spread_lc (fun x => x + x.fdiv 3 * 10 ^ 28) rfl ha1 tr1 (by omega) hD (fun b H' Q' hb' k => ?_) fun H2 bs' s2 e1 e2 e3 e4 => fin D H2 bs' (fun x => x + x.fdiv 3 * 10 ^ 28) hD s2 e1 e2 e3 e4 fun x hx => ?_
          · obtain ⟨x1, x2, x3⟩ := hsm b hb'
            have f1 : b.2.1.fdiv 3 = b.2.1 / 3 := Int.fdiv_eq_ediv_of_nonneg _ (by decide)
            have f2 : b.2.2.fdiv 3 = b.2.2 / 3 := Int.fdiv_eq_ediv_of_nonneg _ (by decide)
            refine ⟨_, rfl, _, rfl, _, _, rfl, rfl, ⟨by decide, by decide⟩, _, _, rfl, rfl, ⟨by decide, by decide, by decide⟩, _, _, rfl, rfl, .inl ⟨?_, ?_⟩, _, _, rfl, rfl, _, rfl, _, rfl, _, _, rfl, rfl, ⟨by decide, by decide⟩, _, _, rfl, rfl, ⟨by decide, by decide, by decide⟩, _, _, rfl, rfl, .inl ⟨?_, ?_⟩, _, _, rfl, rfl, by show 2 ≤ sizeLine; decide, fun t ht => k t ht⟩
            · show -(2 ^ 64 : Int) < b.2.1.fdiv 3; omega
            · show b.2.1.fdiv 3 < (2 ^ 64 : Int); omega
            · show -(2 ^ 64 : Int) < b.2.2.fdiv 3; omega
            · show b.2.2.fdiv 3 < (2 ^ 64 : Int); omega
          · obtain ⟨x1, x2, x3⟩ := hx
            have f1 : x.1.fdiv 3 = x.1 / 3 := Int.fdiv_eq_ediv_of_nonneg _ (by decide)
            have f2 : x.2.fdiv 3 = x.2 / 3 := Int.fdiv_eq_ediv_of_nonneg _ (by decide)
            refine ⟨⟨?_, ?_⟩, ⟨?_, ?_⟩, ?_⟩ <;> dsimp only <;> (first | rw [f1, f2] | rw [f1] | rw [f2]) <;> omega
        · have hd3 : 3 ≤ d := by
            rcases Nat.lt_or_ge d 3 with h3 | h3
            · exfalso; omega
            · exact h3
          have hby : ∃ y : Int, ([V.int 0, V.int 6, V.int 9] : List V)[d - 3]? = some (.int y) ∧ 0 ≤ y ∧ y ≤ 9 := by
            have : d = 3 ∨ d = 4 ∨ d = 5 := by omega
            rcases this with rfl | rfl | rfl
            · exact ⟨0, rfl, by decide, by decide⟩
            · exact ⟨6, rfl, by decide, by decide⟩
            · exact ⟨9, rfl, by decide, by decide⟩
          obtain ⟨y, hy, y0, y9⟩ := hby
          refine ⟨by show 3 ≤ sizeLine; decide, fun u hu => ⟨_, rfl, _, _, rfl, rfl, u, _, ((d - 3 : Nat) : Int), _, rfl, by show V.int ((d : Int) - 3) = _; congr 1; omega, .inl (.inl upd_same), atI_nat hy, ?_⟩⟩
          have su : Same H1 (upd H1 u (.lst [V.int 0, V.int 6, V.int 9])) := same_upd hu
          have trU := tr1.same su
          have haU := su _ _ ha1
          generalize upd H1 u (.lst [V.int 0, V.int 6, V.int 9]) = HU at su trU haU ⊢
          refine ⟨_, rfl, a, rfl, ⟨_, .inl (.inl haU)⟩, fun D hD => ?_⟩
          refine spread_lc (fun x => x - y) rfl haU trU (by omega) hD (fun b H' Q' hb' k => ?_) fun H2 bs' s2 e1 e2 e3 e4 => fin D H2 bs' (fun x => x - y) (su.free hD) (su.trans s2) e1 e2 e3 e4 fun x hx => ?_
          · exact ⟨_, rfl, _, rfl, _, _, rfl, rfl, _, rfl, _, rfl, _, _, rfl, rfl, by show 2 ≤ sizeLine; decide, fun t ht => k t ht⟩
          · obtain ⟨x1, x2, x3⟩ := hx
            refine ⟨⟨?_, ?_⟩, ⟨?_, ?_⟩, ?_⟩ <;> dsimp only <;> omega
def spRowD (K : PySem.W.Frag) : Sp := fun vs H Q _ => ∃ (p l : Addr) (cs : List Int), vs = [.ref p, .int 9] ∧ BagAt K p l cs H ∧
  ∀ r H' (bs' : Bs), bs'.length ≤ 9 → H' r = some (.lst bs'.vs) → Trk H' bs' → (∀ b ∈ bs', Good b.2) → H r = none → BagAt K p l cs H' → But p H H' → Q (.ref r) H'
theorem sc_law_row_drawn : FnScope ["_law_bag_here", "_law_most", "_law_many"] ["_law_bag_here", "_law_most"] (defScope s_law_row_drawn) := ⟨rfl, rfl, rfl, by decide +kernel, rfl, by decide +kernel, by decide +kernel⟩
theorem ok_law_row_drawn (c : Cy w K mg base) : Dn PG w K mg base "_law_row_drawn" 4 ["_law_bag_here", "_law_most"] (spRowD K) := by
  obtain ⟨fd, F⟩ := c.fd_law_row_drawn
  have D__law_take := ok_law_take c
  have D__law_bows := ok_law_bows c
  have D__law_spread := ok_law_spread c
  refine ⟨walkD F sc_law_row_drawn (fun vs H Q E h => ?_) (fun cdv A outer s H vs Q E hr h => ?_) fun _ _ _ _ _ _ us hl => match us, hl with | [_, _], _ => rfl, c.m__law_row_drawn, F.kp⟩
  · obtain ⟨a, _, _, rfl, _⟩ := h
    rfl
  · obtain ⟨p, l, cs, rfl, hb, Qk⟩ := h
    refine ⟨_, (pss_cons (ps_set (i := 2) sc_law_row_drawn.nd rfl (by first | exact Or.inl rfl | exact Or.inr rfl) (D__law_take.call (hr.mono (by decide)) rfl (pa_cons (pv 0) (pa_cons (pe_op op_add (pv 1) pe_int) pa_nil))))
      (pss_one (ps_ret (D__law_spread.call (hr.mono (by decide)) rfl (pa_cons (pv 0) (pa_cons (D__law_bows.call (hr.mono (by decide)) rfl (pa_cons (pv 0) (pa_cons (pv 2) (pa_cons (pe_op op_add pe_int (D__law_take.call (hr.mono (by decide)) rfl (pa_cons (pv 0) (pa_cons (pe_op op_add (pe_op op_mul pe_int (pv 2)) pe_int) pa_nil)))) pa_nil)))) pa_nil)))))), ?_⟩
    refine ⟨_, rfl, _, rfl, _, _, rfl, rfl, p, l, cs, 10, rfl, hb, by decide, by decide, fun n H1 hn hb1 bt1 => ?_⟩
    refine ⟨_, rfl, _, rfl, _, rfl, _, rfl, _, rfl, _, _, rfl, rfl, .inl ⟨by decide, by decide⟩, _, _, rfl, rfl, p, l, cs, 2 * n + 2, by show [V.ref p, V.int (2 * (n : Int) + 2)] = [V.ref p, V.int ((2 * n + 2 : Nat) : Int)]; congr 3, hb1, by omega, by omega, fun m H2 hm hb2 bt2 => ?_⟩
    refine ⟨_, _, rfl, rfl, p, l, cs, n, 3 + m, by show [V.ref p, V.int (n : Int), V.int (3 + (m : Int))] = [V.ref p, V.int (n : Int), V.int ((3 + m : Nat) : Int)]; congr 5, hb2, by omega, by omega, by omega, fun a H3 bs e1 e2 e3 e4 e5 hb3 bt3 => ?_⟩
    refine ⟨p, l, a, cs, bs, rfl, hb3, e2, e3, fun b hb => ?_, by omega, hb2.ne e5, fun r H4 bs' f1 f2 f3 f4 f5 hb4 bt4 => ?_⟩
    · obtain ⟨x1, x2, x3⟩ := e4 b hb
      exact ⟨x1, x2, by push_cast at x3; omega⟩
    · have bt := (bt1.trans bt2).trans bt3
      exact Qk r H4 bs' (by omega) f2 f3 f4 (bt.free f5 (hb3.ne f5)) hb4 (bt.trans bt4)
end
end Bw
end
section
set_option Elab.async false
set_option linter.all false
set_option maxRecDepth 100000
set_option maxHeartbeats 4000000
namespace Bw
open PySem PySem.Spec PyProof.Rows L2
section
variable {w : World} {K : PySem.W.Frag} {mg : Str → Option Value} {base : Heap}
def Falls (n : Nat) (vs : List Int) : Prop := vs ≠ [] ∧ vs[0]? = some (n : Int) ∧ vs[vs.length - 1]? = some 0 ∧ (∀ k, k + 1 < vs.length → ∃ a b, vs[k]? = some a ∧ vs[k + 1]? = some b ∧ b < a ∧ a ≠ 0)
theorem inV_int (z : Int) : ∀ l : List Int, inV (.int z) (l.map V.int) = l.contains z
  | [] => by rfl
  | y :: l => by
    have ih := inV_int z l
    unfold inV at ih ⊢
    rw [List.map_cons, List.any_cons, ih, List.contains_cons]
    show ((y : Int) == z || _) = _
    rw [BEq.comm]
theorem flat_ints (l : List Int) : (l.map V.int).all flatV = true := by rw [List.all_map]; exact List.all_eq_true.mpr fun _ _ => rfl
theorem at_last {xs : List Int} {v : Int} (h : xs[xs.length - 1]? = some v) (hne : xs ≠ []) : atI (xs.map V.int) (-1) = some (.int v) := by
  have e1 : xs = xs.dropLast ++ [v] := by
    obtain ⟨hh, e⟩ := List.getElem?_eq_some_iff.mp h
    rw [← e, ← List.getLast_eq_getElem hne]
    exact (List.dropLast_concat_getLast _).symm
  rw [e1, List.map_append]
  exact atI_last _ _
def spFalls (K : PySem.W.Frag) : Sp := fun vs H Q _ => ∃ (a : Addr) (xs : List Int) (n : Nat), vs = [.ref a, .int n] ∧ H a = some (iO xs) ∧ Falls n xs ∧ xs.length ≤ 1000 ∧ ∀ H', Same H H' → Q (.bl true) H'
theorem sc_law_falls : FnScope ["_law_values", "_law_many", "_law_k"] ["_law_values", "_law_many"] (defScope s_law_falls) := ⟨rfl, rfl, rfl, by decide +kernel, rfl, by decide +kernel, by decide +kernel⟩
theorem ok_law_falls (c : Cy w K mg base) : Dn PG w K mg base "_law_falls" 1 ["_law_values", "_law_many"] (spFalls K) := by
  obtain ⟨fd, F⟩ := c.fd_law_falls
  refine ⟨walkD F sc_law_falls (fun vs H Q E h => ?_) (fun cdv A outer s H vs Q E hr h => ?_) fun _ _ _ _ _ _ us hl => match us, hl with | [_, _], _ => rfl, c.m__law_falls, F.kp⟩
  · obtain ⟨a, _, _, rfl, _⟩ := h
    rfl
  · obtain ⟨a, xs, n, rfl, ha, ⟨f1, f2, f3, f4⟩, hlen, Qk⟩ := h
    have hu := hu_of hr
    have b1000 : (1000 : Nat) ≤ sizeLine := by decide
    have h0 : 0 < xs.length := List.length_pos_iff.mpr f1
    refine ⟨_, (pss_cons (ps_if (PW.pt (pw_or (pt_cmpR op_ne (pe_ix (ix_list_k (K0 := K) (by rfl)) (pv 0) pe_int (fun _ _ => rfl)) (pv 1) (nomark _)) (pw_or (pt_cmpR op_ne (pe_ix (ix_list_k (K0 := K) (by rfl)) (pv 0) (pe_un un_neg pe_int) (fun _ _ => rfl)) pe_int (nomark _)) (pw_or1 (pt_cmpR (op_in_seq_k (K0 := K) (by rfl)) pe_int (pe_slice (sl_list_k (K0 := K) (by rfl)) (pv 0) po_none (po_some (pe_un un_neg pe_int))) (by rfl)))))) (pss_one (ps_ret pe_bl)) pss_nil)
      (pss_one (ps_ret (pe_cmpR (op_eqNil_k (K0 := K) (by rfl) hu) (pe_lc rfl sc_law_falls.nd (pi_range2 (by rfl) c.f_range (pa_cons pe_int (pa_cons (pe_callB (call_len_seq_k (K0 := K) (by rfl)) (by rfl) c.f_len PySem.boot_len (pa_cons (pv 0) pa_nil)) pa_nil))) (blkOk_by (own := [("_law_k", 2)]) (by show blkC ["_law_values", "_law_many", "_law_k"] (defScope s_law_falls) _ _ = true; decide +kernel)) (fun _ _ _ _ _ => (pg_name (i := 2) sc_law_falls.nd rfl (by first | exact Or.inl rfl | exact Or.inr rfl))) (fun _ _ _ _ _ => (pts_one (pt_cmpR op_ge (pe_ix (ix_list_k (K0 := K) (by rfl)) (pv 0) (pv 2) (fun _ _ => rfl)) (pe_ix (ix_list_k (K0 := K) (by rfl)) (pv 0) (pe_op op_sub (pv 2) pe_int) (fun _ _ => rfl)) (nomark _)))) (fun _ _ _ _ _ => pe_int)) (pe_lst pa_nil) (nomark _))))), ?_⟩
    refine ⟨_, rfl, a, _, 0, .int (n : Int), rfl, rfl, .inl (.inl ha), atI_nat (j := 0) (by rw [List.getElem?_map, f2]; rfl), _, rfl, rfl, _, rfl, ?_⟩
    refine iteNI (fun h => absurd rfl h) fun _ => ?_
    refine ⟨_, rfl, _, rfl, a, _, _, _, rfl, rfl, .inl (.inl ha), at_last f3 f1, rfl, _, rfl, ?_⟩
    refine iteNI (fun h => absurd rfl h) fun _ => ?_
    refine ⟨_, rfl, _, rfl, _, rfl, a, _, rfl, .inl (.inl ha), fun u hu' => ?_⟩
    have su := same_upd (o := .lst (cutV (xs.map V.int) none (some (-1)))) hu'
    have ec : cutV (xs.map V.int) none (some (-1)) = (xs.take (xs.length - 1)).map V.int := by
      unfold cutV
      rw [HT.sIx_none, List.drop_zero, Nat.sub_zero, List.length_map, List.map_take]
      congr 1
      show ((-1 : Int) + (xs.length : Int)).toNat = xs.length - 1
      omega
    refine ⟨u, _, rfl, .inl (.inl (.inl upd_same)), rfl, by rw [ec]; exact flat_ints _, _, rfl, ?_⟩
    have e0 : inV (.int 0) (cutV (xs.map V.int) none (some (-1))) = false := by
      rw [ec, inV_int]
      cases h : (xs.take (xs.length - 1)).contains 0 with
      | false => rfl
      | true =>
        exfalso
        rw [List.contains_iff_mem] at h
        obtain ⟨i, hi⟩ := List.mem_iff_getElem?.mp h
        rw [List.getElem?_take] at hi
        split at hi
        · obtain ⟨p, q, p1, p2, p3, p4⟩ := f4 i (by omega)
          rw [p1] at hi
          injection hi with hi
          exact p4 hi
        · cases hi
    refine iteF' e0 ?_
    have hau := su _ _ ha
    generalize upd H u (.lst (cutV (xs.map V.int) none (some (-1)))) = H1 at su hau ⊢
    refine ⟨_, rfl, a, _, rfl, .inl (.inl (.inl hau)), 1, (xs.length : Int), by rw [List.length_map], ⟨by omega, by omega, by omega, by omega⟩, fun D hD => ?_⟩
    have en : ((xs.length : Int) - 1).toNat = xs.length - 1 := by omega
    rw [en]
    refine lc_accR (lo := 1) (n := xs.length - 1) (fun _ => []) (by omega) hD rfl (fun i H2 hi s2 _ K1 K0 k1 k0 => ?_) fun H2 s2 e => ?_
    · obtain ⟨p, q, p1, p2, p3, p4⟩ := f4 i (by omega)
      refine ⟨rfl, _, rfl, _, rfl, a, _, ((i + 1 : Nat) : Int), .int q, rfl, by congr 1; omega, .inl (.inl (s2 _ _ hau)), atI_nat (by rw [List.getElem?_map, p2]; rfl), _, rfl, _, rfl, _, _, rfl, rfl, a, _, ((i : Nat) : Int), .int p, rfl, by show V.int ((1 + (i : Int)) - 1) = _; congr 1; omega, .inl (.inl (s2 _ _ hau)), atI_nat (by rw [List.getElem?_map, p1]; rfl), _, _, rfl, rfl, _, rfl, ?_⟩
      refine iteP (fun h => absurd h (by omega)) fun _ => ?_
      exact k0 _ (Same.refl _) rfl
    · refine ⟨Nat.zero_le _, fun v hv => ⟨D, v, _, rfl, rfl, .inl (.inl ((same_upd hv) _ _ e)), .inl (.inl upd_same), Qk _ (su.trans (s2.trans (same_upd hv)))⟩⟩
theorem mkRow2 {H : Hp} {a x dx : Addr} {bs : Bs} {Q : VK} {E : XK} (hx : H x = none) (hdx : H dx = none) (hB : BowsIn K H a bs) (q : ∀ H', RowAt K H' x bs → Same H H' → Q .non H') :
    spRowInit K (.ref x :: ([.ref a] ++ [])) (upd (upd H dx (.own x)) x (.ins (He.ga K "Row") dx [])) Q E := by
  have s0 : Same H (upd (upd H dx (.own x)) x (.ins (He.ga K "Row") dx [])) := fun b o e => by
    rw [upd_ne (ne_of_none e hx), upd_ne (ne_of_none e hdx)]
    exact e
  exact ⟨x, a, dx, bs, rfl, upd_same, hB.same s0, fun H' hR k => q H' hR (Same.made hx hdx k)⟩
theorem mkKind2 {H : Hp} {a x dx : Addr} {ws : List Way} {Q : VK} {E : XK} (hx : H x = none) (hdx : H dx = none) (ha : SqL K H a (wsV ws)) (hl : ws.length ≤ 1000) (q : ∀ H', KindAt K H' x (fun y => decide (y ∈ ws)) → Same H H' → Q .non H') :
    spKindInit K (.ref x :: ([.ref a] ++ [])) (upd (upd H dx (.own x)) x (.ins (He.ga K "Kind") dx [])) Q E := by
  have s0 : Same H (upd (upd H dx (.own x)) x (.ins (He.ga K "Kind") dx [])) := fun b o e => by
    rw [upd_ne (ne_of_none e hx), upd_ne (ne_of_none e hdx)]
    exact e
  exact ⟨x, a, dx, ws, rfl, upd_same, s0.seq ha, hl, fun H' hR k => q H' hR (Same.made hx hdx k)⟩
end
end Bw
end
section
set_option Elab.async false
set_option linter.all false
set_option maxRecDepth 100000
set_option maxHeartbeats 4000000
namespace Bw
open PySem PySem.Spec PyProof.Rows L2
/-! ### the rings, plain -/
def ringAt (k : Kd) (l : List Bow) (i j : Nat) : Bool := k (wayOf (l.getD i (0, 1)) (l.getD j (0, 1))) == (j - i == 1 || j - i == 4)
def ringOk (k : Kd) (l : List Bow) : Bool := (List.range 5).all fun i => (List.range (5 - (i + 1))).all fun d => ringAt k l i (i + 1 + d)
def five (l : List Bow) : List Bow := [0, 2, 4, 1, 3].map fun i => l.getD i (0, 1)
def ringsM : List (List Bow) := rings.flatMap fun r => [r, five r, r.map turn1, five (r.map turn1)]
def tightK (k : Kd) : Bool := !(ringsM.any (ringOk k))
section
variable {w : World} {K : PySem.W.Frag} {mg : Str → Option Value} {base : Heap}
/-! ### RINGS as it stands in the written part -/
theorem tupK_sq {a : Addr} {us : List Value} {vs : List V} (h : tupK K a = some us) (r : Vals vs us) (H : Hp) : SqT K H a vs := by
  unfold tupK at h
  split at h
  · rename_i c d its n sl hl
    split at h
    · rename_i hb
      injection h with h
      subst h
      obtain ⟨h1, h2⟩ := Bool.and_eq_true_iff.mp hb
      refine .inr ⟨_, its, n, hl, ?_, rfl, of_decide_eq_true h2, r⟩
      show Value.type _ = Value.type "tuple"
      rw [of_decide_eq_true h1]
    · cases h
  · cases h
theorem bowB_sq {u : Value} {b : Bow} (h : bowB K u b = true) : ∃ a, u = .ref a ∧ ∀ H, BowT K H a b := by
  unfold bowB at h
  split at h
  · rename_i a
    split at h
    · rename_i us hu
      exact ⟨a, rfl, fun H => tupK_sq hu (He.relAll_ok h) H⟩
    · cases h
  · cases h
theorem allB_bows : ∀ {us : List Value} {r : List Bow}, allB (bowB K) us r = true → ∃ bs : Bs, us = bs.map (fun b => Value.ref b.1) ∧ bs.bows = r ∧ ∀ b ∈ bs, ∀ H, BowT K H b.1 b.2
  | [], [], _ => ⟨[], rfl, rfl, fun b hb => absurd hb List.not_mem_nil⟩
  | u :: us, b :: r, h => by
    obtain ⟨h1, h2⟩ := Bool.and_eq_true_iff.mp (show (bowB K u b && allB (bowB K) us r) = true from h)
    obtain ⟨a, rfl, ha⟩ := bowB_sq h1
    obtain ⟨bs, e1, e2, e3⟩ := allB_bows h2
    refine ⟨(a, b) :: bs, by rw [e1]; rfl, by unfold Bs.bows at e2 ⊢; rw [List.map_cons, e2], fun x hx => ?_⟩
    rcases List.mem_cons.mp hx with e | hx
    · rw [e]; exact ha
    · exact e3 x hx
  | [], _ :: _, h => by cases h
  | _ :: _, [], h => by cases h
theorem vals_bs (bs : Bs) : Vals bs.vs (bs.map fun b => Value.ref b.1) := by
  induction bs with
  | nil => exact .nil
  | cons b bs ih => exact .cons rfl ih
theorem ringB_sq {u : Value} {r : List Bow} (h : ringB K u r = true) : ∃ (a : Addr) (bs : Bs), u = .ref a ∧ bs.bows = r ∧ ∀ H, SqT K H a bs.vs ∧ ∀ b ∈ bs, BowT K H b.1 b.2 := by
  unfold ringB at h
  split at h
  · rename_i a
    split at h
    · rename_i us hu
      obtain ⟨bs, e1, e2, e3⟩ := allB_bows h
      exact ⟨a, bs, rfl, e2, fun H => ⟨tupK_sq hu (by rw [e1]; exact vals_bs bs) H, fun b hb => e3 b hb H⟩⟩
    · cases h
  · cases h
theorem allB_rings : ∀ {us : List Value} {rs : List (List Bow)}, allB (ringB K) us rs = true → ∃ ps : List (Addr × Bs), us = ps.map (fun q => Value.ref q.1) ∧ ps.map (fun q => q.2.bows) = rs ∧ ∀ q ∈ ps, ∀ H, SqT K H q.1 q.2.vs ∧ ∀ b ∈ q.2, BowT K H b.1 b.2
  | [], [], _ => ⟨[], rfl, rfl, fun b hb => absurd hb List.not_mem_nil⟩
  | u :: us, b :: r, h => by
    obtain ⟨h1, h2⟩ := Bool.and_eq_true_iff.mp (show (ringB K u b && allB (ringB K) us r) = true from h)
    obtain ⟨a, bs, rfl, ha, hb⟩ := ringB_sq h1
    obtain ⟨ps, e1, e2, e3⟩ := allB_rings h2
    refine ⟨(a, bs) :: ps, by rw [e1]; rfl, by rw [List.map_cons, e2, ha], fun x hx => ?_⟩
    rcases List.mem_cons.mp hx with e | hx
    · rw [e]; exact hb
    · exact e3 x hx
  | [], _ :: _, h => by cases h
  | _ :: _, [], h => by cases h
theorem vals_ps (ps : List (Addr × Bs)) : Vals (ps.map fun q => V.ref q.1) (ps.map fun q => Value.ref q.1) := by
  induction ps with
  | nil => exact .nil
  | cons b bs ih => exact .cons rfl ih
theorem Cy.rings (c : Cy w K mg base) : ∃ ps : List (Addr × Bs), (∀ H, SqT K H (He.ga K "RINGS") (ps.map fun q => V.ref q.1)) ∧ ps.map (fun q => q.2.bows) = rings ∧ ∀ q ∈ ps, ∀ H, SqT K H q.1 q.2.vs ∧ ∀ b ∈ q.2, BowT K H b.1 b.2 := by
  have h := c.says.2
  unfold moreB at h
  have h2 := (He.ba (He.ba (He.ba h).2).2).2
  split at h2
  · rename_i us hu
    obtain ⟨ps, e1, e2, e3⟩ := allB_rings h2
    exact ⟨ps, fun H => tupK_sq hu (by rw [e1]; exact vals_ps ps) H, e2, e3⟩
  · cases h2
def spRing (K : PySem.W.Frag) : Sp := fun vs H Q _ => ∃ (q a : Addr) (k : Kd) (bs : Bs), vs = [.ref q, .ref a] ∧ KindAt K H q k ∧ H a = some (.lst bs.vs) ∧ BowsT K H bs ∧ bs.length = 5 ∧ ∀ H', Same H H' → Q (.bl (ringOk k bs.bows)) H'
theorem sc_is_ring : FnScope ["kind", "thing", "row", "i", "j"] ["kind", "thing"] (defScope s_is_ring) := ⟨rfl, rfl, rfl, by decide +kernel, rfl, by decide +kernel, by decide +kernel⟩
theorem ok_is_ring (c : Cy w K mg base) : Dn PG w K mg base "is_ring" 7 ["kind", "thing"] (spRing K) := by
  obtain ⟨fd, F⟩ := c.fd_is_ring
  have D_are_bows := ok_are_bows c
  have D_Row___init__ := ok_Row_init c
  have D_together := ok_together c
  refine ⟨walkD F sc_is_ring (fun vs H Q E h => ?_) (fun cdv A outer s H vs Q E hr h => ?_) fun _ _ _ _ _ _ us hl => match us, hl with | [_, _], _ => rfl, c.m_is_ring, F.kp⟩
  · obtain ⟨a, _, _, _, rfl, _⟩ := h
    rfl
  · obtain ⟨q, a, k, bs, rfl, hk, ha, hB, h5, Qk⟩ := h
    refine ⟨_, (pss_cons (ps_if (PW.pt (pw_or (pt_not (pt_val (pe_callB (call_isi_k (K0 := K) (by rfl)) (by rfl) c.f_isinstance (by decide +kernel) (pa_cons (pv 1) (pa_cons (pe_bltn (v := .ty "list") (by rfl) c.f_list (by decide +kernel) rfl) pa_nil))))) (pw_or (pt_cmpR op_ne (pe_callB (call_len_seq_k (K0 := K) (by rfl)) (by rfl) c.f_len PySem.boot_len (pa_cons (pv 1) pa_nil)) pe_int (nomark _)) (pw_or1 (pt_not (pt_val (D_are_bows.call (hr.mono (by decide)) rfl (pa_cons (pv 1) pa_nil)))))))) (pss_one (ps_ret pe_bl)) pss_nil)
      (pss_cons (ps_set (i := 2) sc_is_ring.nd rfl (by first | exact Or.inl rfl | exact Or.inr rfl) (Di.make (K0 := K) (by rfl) D_Row___init__ (hr.mono (by decide)) rfl (pa_cons (pv 1) pa_nil)))
      (pss_cons (ps_for PassesOwn.never rfl (pi_range1 (by rfl) c.f_range (pa_cons pe_int pa_nil)) (pg_name (i := 3) sc_is_ring.nd rfl (by first | exact Or.inl rfl | exact Or.inr rfl)) (pss_one (ps_for PassesOwn.never rfl (pi_range2 (by rfl) c.f_range (pa_cons (pe_op op_add (pv 3) pe_int) (pa_cons pe_int pa_nil))) (pg_name (i := 4) sc_is_ring.nd rfl (by first | exact Or.inl rfl | exact Or.inr rfl)) (pss_one (ps_if (pt_cmpR op_ne (D_together.call (hr.mono (by decide)) rfl (pa_cons (pv 2) (pa_cons (pv 0) (pa_cons (pv 3) (pa_cons (pv 4) pa_nil))))) (pe_cmpR (op_in_seq_k (K0 := K) (by rfl)) (pe_op op_sub (pv 4) (pv 3)) (pe_tup (pa_cons pe_int (pa_cons pe_int pa_nil))) (by rfl)) (nomark _)) (pss_one (ps_ret pe_bl)) pss_nil)))))
      (pss_one (ps_ret pe_bl))))), ?_⟩
    refine ⟨_, rfl, _, _, _, _, true, rfl, .ty "list", tyL (.inl (.inl ha)), kit_ty (by decide +kernel), true, rfl, iteF ?_⟩
    refine ⟨_, rfl, a, _, rfl, .inl (.inl (.inl ha)), rfl, _, rfl, ?_⟩
    refine iteNI (fun h => absurd (by rw [List.length_map, h5]; rfl) h) fun _ => ?_
    have hBI : BowsIn K H a bs := ⟨.inl (.inl (.inl ha)), hB, by omega⟩
    refine ⟨_, rfl, a, bs, rfl, hBI, fun H1 s1 => ⟨_, rfl, iteF ?_⟩⟩
    refine ⟨_, rfl, fun R dR hR0 hdR _ => mkRow2 (bs := bs) hR0 hdR (hBI.same s1) fun H2 hR s2 => ⟨rfl, ?_⟩⟩
    have s12 := s1.trans s2
    have hk2 := hk.same s12
    refine ⟨5, rfl, by decide, by decide, ?_⟩
    refine for_range (lo := 0) (n := 5) (fun i σ H' => (∃ x3 x4, σ = [some (.ref q), some (.ref a), some (.ref R), x3, x4]) ∧ Same H2 H' ∧ ∀ i', i' < i → (List.range (5 - (i' + 1))).all (fun d => ringAt k bs.bows i' (i' + 1 + d)) = true)
      ⟨⟨_, _, rfl⟩, Same.refl _, fun i' h => absurd h (Nat.not_lt_zero _)⟩ ?_ ?_
    · rintro i σ H3 hi ⟨⟨x3, x4, rfl⟩, sm, hall⟩
      refine ⟨_, rfl, _, _, rfl, rfl, ?_⟩
      have ei : (0 + (i : Int)) = ((i : Nat) : Int) := by omega
      refine ⟨(0 + (i : Int)) + 1, 5, rfl, ⟨by omega, by omega, by decide, by decide⟩, ?_⟩
      have en : ((5 : Int) - ((0 + (i : Int)) + 1)).toNat = 5 - (i + 1) := by omega
      rw [en]
      refine for_range (lo := (0 + (i : Int)) + 1) (n := 5 - (i + 1)) (fun d σ H' => (∃ x4, σ = [some (.ref q), some (.ref a), some (.ref R), some (.int (0 + (i : Int))), x4]) ∧ Same H2 H' ∧ ∀ d', d' < d → ringAt k bs.bows i (i + 1 + d') = true)
        ⟨⟨_, rfl⟩, sm, fun d' h => absurd h (Nat.not_lt_zero _)⟩ ?_ ?_
      · rintro d σ H4 hd ⟨⟨x4, rfl⟩, sm4, hd4⟩
        have ej : (0 + (i : Int)) + 1 + (d : Int) = ((i + 1 + d : Nat) : Int) := by omega
        have hib : bs[i]? = some (bs[i]'(by omega)) := List.getElem?_eq_getElem (by omega)
        have hjb : bs[i + 1 + d]? = some (bs[i + 1 + d]'(by omega)) := List.getElem?_eq_getElem (by omega)
        refine ⟨_, rfl, _, rfl, _, rfl, _, rfl, R, q, bs, k, i, i + 1 + d, _, _, by show [V.ref R, V.ref q, V.int (0 + (i : Int)), V.int (0 + (i : Int) + 1 + (d : Int))] = _; rw [ej, ei], hR.same sm4, hk2.same sm4, hib, hjb, fun H5 s5 => ?_⟩
        refine ⟨_, rfl, _, rfl, _, _, rfl, rfl, by show 2 ≤ sizeLine; decide, fun t5 ht5 => ⟨t5, _, rfl, .inr (.inl (.inl upd_same)), rfl, rfl, ?_⟩⟩
        have eg : ringAt k bs.bows i (i + 1 + d) = (k (wayOf (bs[i]'(by omega)).2 (bs[i + 1 + d]'(by omega)).2) == (1 + d == 1 || 1 + d == 4)) := by
          unfold ringAt Bs.bows
          rw [List.getD_eq_getElem?_getD, List.getD_eq_getElem?_getD, List.getElem?_map, List.getElem?_map, hib, hjb, show i + 1 + d - i = 1 + d by omega]
          rfl
        have ein : inV (V.int ((0 + (i : Int)) + 1 + (d : Int) - (0 + (i : Int)))) [V.int 1, V.int 4] = (1 + d == 1 || 1 + d == 4) := by
          rw [show (0 + (i : Int)) + 1 + (d : Int) - (0 + (i : Int)) = ((1 + d : Nat) : Int) by omega]
          show ((1 : Int) == ((1 + d : Nat) : Int) || ((4 : Int) == ((1 + d : Nat) : Int) || false)) = _
          rw [Bool.or_false, Bool.eq_iff_iff, Bool.or_eq_true, Bool.or_eq_true, beq_iff_eq, beq_iff_eq, beq_iff_eq, beq_iff_eq]
          omega
        refine ⟨rfl, _, rfl, ?_⟩
        have s6 := s5.trans (same_upd (o := .tup [V.int 1, V.int 4]) ht5)
        cases hg : ringAt k bs.bows i (i + 1 + d) with
        | true =>
          rw [hg] at eg
          have e2 : (!decide (V.bl (k (wayOf (bs[i]'(by omega)).2 (bs[i + 1 + d]'(by omega)).2)) = V.bl (inV (V.int ((0 + (i : Int)) + 1 + (d : Int) - (0 + (i : Int)))) [V.int 1, V.int 4]))) = false := by
            rw [ein, beq_iff_eq.mp eg.symm]
            simp
          refine iteF' e2 ?_
          refine ⟨⟨_, rfl⟩, sm4.trans s6, fun d' hd' => ?_⟩
          by_cases e : d' = d
          · rw [e]; exact hg
          · exact hd4 d' (by omega)
        | false =>
          rw [hg] at eg
          have ne : k (wayOf (bs[i]'(by omega)).2 (bs[i + 1 + d]'(by omega)).2) ≠ (1 + d == 1 || 1 + d == 4) := by
            intro h
            rw [h] at eg
            simp at eg
          have e2 : (!decide (V.bl (k (wayOf (bs[i]'(by omega)).2 (bs[i + 1 + d]'(by omega)).2)) = V.bl (inV (V.int ((0 + (i : Int)) + 1 + (d : Int) - (0 + (i : Int)))) [V.int 1, V.int 4]))) = true := by
            rw [ein, Bool.not_eq_true', decide_eq_false_iff_not]
            intro h
            injection h with h
            exact ne h
          refine iteT' e2 ?_
          have ef : ringOk k bs.bows = false := by
            cases e : ringOk k bs.bows with
            | false => rfl
            | true =>
              have := List.all_eq_true.mp (List.all_eq_true.mp e i (List.mem_range.mpr hi)) d (List.mem_range.mpr hd)
              rw [hg] at this
              cases this
          have := Qk _ ((s12.trans sm4).trans s6)
          rw [ef] at this
          exact this
      · rintro σ H4 ⟨⟨x4, rfl⟩, sm4, hd4⟩
        refine ⟨⟨_, _, rfl⟩, sm4, fun i' hi' => ?_⟩
        by_cases e : i' = i
        · subst e
          exact List.all_eq_true.mpr fun d hd => hd4 d (List.mem_range.mp hd)
        · exact hall i' (by omega)
    · rintro σ H3 ⟨⟨x3, x4, rfl⟩, sm, hall⟩
      have := Qk H3 (s12.trans sm)
      rw [show ringOk k bs.bows = true from List.all_eq_true.mpr fun i hi => hall i (List.mem_range.mp hi)] at this
      exact this
end
end Bw
end
section
set_option Elab.async false
set_option linter.all false
set_option maxRecDepth 100000
set_option maxHeartbeats 4000000
namespace Bw
open PySem PySem.Spec PyProof.Rows L2
theorem rings_good : ∀ r ∈ rings, r.length = 5 ∧ ∀ b ∈ r, Good b := by
  have h : ∀ r ∈ rings, r.length = 5 ∧ ∀ b ∈ r, (-(10 ^ 30 : Int) ≤ b.1 ∧ b.1 ≤ 10 ^ 30) ∧ (-(10 ^ 30 : Int) ≤ b.2 ∧ b.2 ≤ 10 ^ 30) ∧ b.1 < b.2 := by decide +kernel
  exact h
section
variable {w : World} {K : PySem.W.Frag} {mg : Str → Option Value} {base : Heap}
/-- lists of bows -/
abbrev Bl := List (Addr × Bs)
abbrev Bl.vs (ps : Bl) : List V := ps.map fun q => V.ref q.1
abbrev Bl.bows (ps : Bl) : List (List Bow) := ps.map fun q => q.2.bows
def BlAt (K : PySem.W.Frag) (H : Hp) (ps : Bl) : Prop := ∀ q ∈ ps, H q.1 = some (.lst q.2.vs) ∧ BowsT K H q.2 ∧ q.2.length = 5
theorem BlAt.same {H H' : Hp} {ps : Bl} (e : Same H H') (h : BlAt K H ps) : BlAt K H' ps := fun q hq => ⟨e _ _ (h q hq).1, (h q hq).2.1.same e, (h q hq).2.2⟩
theorem BowsT.but {p : Addr} {H H' : Hp} {bs : Bs} {ys : List V} (bt : But p H H') (hp : H p = some (.lst ys)) (h : BowsT K H bs) : BowsT K H' bs := fun b hb => ⟨bt.tup hp (h b hb).1, (h b hb).2⟩
theorem BlAt.store {H : Hp} {F : Addr} {ps : Bl} {ys zs : List V} (hF : H F = some (.lst ys)) (hne : ∀ q ∈ ps, q.1 ≠ F) (h : BlAt K H ps) : BlAt K (upd H F (.lst zs)) ps := fun q hq =>
  ⟨by rw [upd_ne (hne q hq)]; exact (h q hq).1, (h q hq).2.1.but (But.upd F H _) hF, (h q hq).2.2⟩
theorem BlAt.snoc {H : Hp} {ps : Bl} {a : Addr} {bs : Bs} (h : BlAt K H ps) (h1 : H a = some (.lst bs.vs)) (h2 : BowsT K H bs) (h5 : bs.length = 5) : BlAt K H (ps ++ [(a, bs)]) := fun q hq => by
  rcases List.mem_append.mp hq with h' | h'
  · exact h q h'
  · rw [List.mem_singleton.mp h']; exact ⟨h1, h2, h5⟩
/-- the five in another order -/
def fiveB (bs : Bs) : Bs := [0, 2, 4, 1, 3].map fun i => bs.getD i (0, (0, 1))
theorem fiveB_bows {bs : Bs} (h : bs.length = 5) : (fiveB bs).bows = five bs.bows := by
  unfold fiveB five Bs.bows
  rw [List.map_map]
  refine List.map_congr_left fun i hi => ?_
  have hi5 : i < bs.length := by
    have : ∀ i ∈ [0, 2, 4, 1, 3], i < 5 := by decide
    have := this i hi
    omega
  show (bs.getD i (0, (0, 1))).2 = _
  rw [List.getD_eq_getElem?_getD, List.getD_eq_getElem?_getD, List.getElem?_map, List.getElem?_eq_getElem hi5]
  rfl
theorem fiveB_mem {bs : Bs} (h : bs.length = 5) : ∀ b ∈ fiveB bs, b ∈ bs := fun b hb => by
  obtain ⟨i, hi, rfl⟩ := List.mem_map.mp hb
  have hi5 : i < bs.length := by
    have : ∀ i ∈ [0, 2, 4, 1, 3], i < 5 := by decide
    have := this i hi
    omega
  rw [List.getD_eq_getElem?_getD, List.getElem?_eq_getElem hi5]
  exact List.getElem_mem hi5
def twoOf (l : List Bow) : List (List Bow) := [l, five l]
def spRings (K : PySem.W.Frag) : Sp := fun vs H Q _ => vs = [] ∧ ∀ a H' (ps : Bl), H' a = some (.lst ps.vs) → BlAt K H' ps → ps.bows = ringsM → Same H H' → Q (.ref a) H'
theorem sc_known_rings : FnScope ["found", "ring", "bows", "at"] [] (defScope s_known_rings) := ⟨rfl, rfl, rfl, by decide +kernel, rfl, by decide +kernel, by decide +kernel⟩
theorem ok_known_rings (c : Cy w K mg base) : Dn PG w K mg base "known_rings" 9 [] (spRings K) := by
  obtain ⟨fd, F⟩ := c.fd_known_rings
  have D_Row___init__ := ok_Row_init c
  have D_Row_turned := ok_Row_turned c
  have D_Row_bows := ok_Row_bows c
  refine ⟨walkD F sc_known_rings (fun vs H Q E h => ?_) (fun cdv A outer s H vs Q E hr h => ?_) fun _ _ _ _ _ _ us hl => match us, hl with | [], _ => rfl, c.m_known_rings, F.kp⟩
  · rw [h.1]; rfl
  · obtain ⟨rfl, Qk⟩ := h
    obtain ⟨rps, rg1, rg2, rg3⟩ := c.rings
    have lrps : rps.length = 6 := by
      have := congrArg List.length rg2
      rw [List.length_map] at this
      exact this
    refine ⟨_, (pss_cons (ps_set (i := 0) sc_known_rings.nd rfl (by first | exact Or.inl rfl | exact Or.inr rfl) (pe_lst pa_nil))
      (pss_cons (ps_for PassesOwn.never rfl (pi_tup_k (K0 := K) (by rfl) (pe_glob (v := .ref (He.ga K "RINGS")) rfl c.m_RINGS rfl)) (pg_name (i := 1) sc_known_rings.nd rfl (by first | exact Or.inl rfl | exact Or.inr rfl)) (pss_one (ps_for PassesOwn.never rfl (pi_tup_k (K0 := K) (by rfl) (pe_tup (pa_cons (pe_callTy (call_list_of_k (K0 := K) (by rfl)) (by rfl) c.f_list (by decide +kernel) (pa_cons (pv 1) pa_nil)) (pa_cons (Dm.call0 (K0 := K) (by rfl) D_Row_bows (hr.mono (by decide)) (Dm.call0 (K0 := K) (by rfl) D_Row_turned (hr.mono (by decide)) (Di.make (K0 := K) (by rfl) D_Row___init__ (hr.mono (by decide)) rfl (pa_cons (pv 1) pa_nil)))) pa_nil)))) (pg_name (i := 2) sc_known_rings.nd rfl (by first | exact Or.inl rfl | exact Or.inr rfl)) (pss_cons (ps_expr (pe_bm_k (K0 := K) (by rfl) PySem.F.plainAttrs_list PySem.F.slot_list_append PySem.F.type_list_append mt_append (pv 0) (pa_cons (pv 2) pa_nil)))
      (pss_one (ps_expr (pe_bm_k (K0 := K) (by rfl) PySem.F.plainAttrs_list PySem.F.slot_list_append PySem.F.type_list_append mt_append (pv 0) (pa_cons (pe_lc rfl sc_known_rings.nd (pi_tup_k (K0 := K) (by rfl) (pe_tup (pa_cons pe_int (pa_cons pe_int (pa_cons pe_int (pa_cons pe_int (pa_cons pe_int pa_nil))))))) (blkOk_by (own := [("at", 3)]) (by show blkC ["found", "ring", "bows", "at"] (defScope s_known_rings) _ _ = true; decide +kernel)) (fun _ _ _ _ _ => (pg_name (i := 3) sc_known_rings.nd rfl (by first | exact Or.inl rfl | exact Or.inr rfl))) (fun _ _ _ _ _ => pts_nil) (fun _ _ _ _ _ => (pe_ix (ix_list_k (K0 := K) (by rfl)) (pv 2) (pv 3) (fun _ _ => rfl)))) pa_nil))))))))
      (pss_one (ps_ret (pv 0))))), ?_⟩
    refine ⟨Nat.zero_le _, fun F hF => ?_⟩
    have sF := same_upd (o := .lst []) hF
    refine ⟨_, rfl, ⟨_, rg1 _⟩, for_tup (K := K) (a := He.ga K "RINGS") (xs := rps.map fun q => V.ref q.1) (fun i σ H' => (∃ x1 x2 x3, σ = [some (.ref F), x1, x2, x3]) ∧ Same H H' ∧ ∃ ps : Bl, H' F = some (.lst ps.vs) ∧ BlAt K H' ps ∧ (∀ q ∈ ps, q.1 ≠ F) ∧ ps.length ≤ 4 * i ∧ ps.bows = (rings.take i).flatMap fun r => twoOf r ++ twoOf (r.map turn1))
      ⟨⟨_, _, _, rfl⟩, sF, [], upd_same, fun q hq => absurd hq List.not_mem_nil, fun q hq => absurd hq List.not_mem_nil, Nat.le_refl _, rfl⟩ (fun i σ H' _ _ => rg1 H') ?_ ?_⟩
    · rintro i x σ H1 hx ⟨⟨x1, x2, x3, rfl⟩, s1, ps, f1, f2, f3, f4, f5⟩
      obtain ⟨rq, hrq, rfl⟩ : ∃ rq, rps[i]? = some rq ∧ V.ref rq.1 = x := by rw [List.getElem?_map] at hx; exact Option.map_eq_some_iff.mp hx
      have hrm := List.mem_of_getElem? hrq
      have hi6 : i < 6 := by have := (List.getElem?_eq_some_iff.mp hrq).1; omega
      have hring : rings[i]? = some rq.2.bows := by rw [← rg2, List.getElem?_map, hrq]; rfl
      have hg := rings_good _ (List.mem_of_getElem? hring)
      have l5 : rq.2.length = 5 := by have := hg.1; rw [List.length_map] at this; exact this
      have hB : ∀ H', BowsT K H' rq.2 := fun H' b hb => ⟨(rg3 rq hrm H').2 b hb, hg.2 b.2 (List.mem_map.mpr ⟨b, hb, rfl⟩)⟩
      -- (list(ring), Row(ring).turned().bows())
      refine ⟨_, rfl, rq.1, _, rfl, .inr (rg3 rq hrm H1).1, fun L1 hL1 => ?_⟩
      have s2 := same_upd (o := .lst rq.2.vs) hL1
      have i1 : (upd H1 L1 (.lst rq.2.vs)) L1 = some (.lst rq.2.vs) := upd_same
      generalize upd H1 L1 (.lst rq.2.vs) = H2 at s2 i1 ⊢
      refine ⟨_, rfl, fun R dR hR0 hdR _ => mkRow2 (bs := rq.2) hR0 hdR ⟨.inr (rg3 rq hrm _).1, hB _, by omega⟩ fun H3 hR s3 => ⟨rfl, ?_⟩⟩
      obtain ⟨dx, l, e1, _⟩ := hR.ex
      refine ⟨R, dx, _, rfl, e1, rfl, R, rq.2, rfl, hR, by omega, fun T H4 bs' hT eT s4 => ?_⟩
      obtain ⟨dx', l', e1', e2'⟩ := hT.ex
      refine ⟨T, dx', _, rfl, e1', rfl, T, bs', rfl, hT, fun L2 hL2 => ?_⟩
      have s5 := same_upd (o := .lst bs'.vs) hL2
      have lb' : bs'.length = 5 := by
        have := congrArg List.length eT
        rw [List.length_map, List.length_map, List.length_map] at this
        omega
      refine ⟨by show 2 ≤ sizeLine; decide, fun t ht => ⟨t, rfl, ⟨_, .inl (.inl upd_same)⟩, ?_⟩⟩
      have s6 := same_upd (o := .tup [V.ref L1, V.ref L2]) ht
      have st : (upd (upd H4 L2 (.lst bs'.vs)) t (.tup [V.ref L1, V.ref L2])) t = some (.tup [V.ref L1, V.ref L2]) := upd_same
      have iL2 := s6 _ _ (upd_same (H := H4) (a := L2) (o := .lst bs'.vs))
      have iL1 := s6 _ _ (s5 _ _ (s4 _ _ (s3 _ _ i1)))
      have hB' : BowsT K (upd (upd H4 L2 (.lst bs'.vs)) t (.tup [V.ref L1, V.ref L2])) bs' := (hT.ok.same s5).same s6
      have s16 := s2.trans (s3.trans (s4.trans (s5.trans s6)))
      have nL1F : L1 ≠ F := fun z => by rw [z, f1] at hL1; cases hL1
      have nL2F : L2 ≠ F := fun z => by
        have := s4 _ _ (s3 _ _ (s2 _ _ f1))
        rw [← z, hL2] at this
        cases this
      generalize upd (upd H4 L2 (.lst bs'.vs)) t (.tup [V.ref L1, V.ref L2]) = H6 at st iL1 iL2 hB' s16 ⊢
      let two : Bl := [(L1, rq.2), (L2, bs')]
      have two_at : BlAt K H6 two := fun q hq => by
        rcases List.mem_cons.mp hq with e | hq
        · rw [e]; exact ⟨iL1, hB _, l5⟩
        · rw [List.mem_singleton.mp hq]; exact ⟨iL2, hB', lb'⟩
      have two_ne : ∀ q ∈ two, q.1 ≠ F := fun q hq => by
        rcases List.mem_cons.mp hq with e | hq
        · rw [e]; exact nL1F
        · rw [List.mem_singleton.mp hq]; exact nL2F
      refine for_tup (K := K) (a := t) (xs := two.vs) (fun j σ H' => (∃ x2 x3, σ = [some (.ref F), some (.ref rq.1), x2, x3]) ∧ But F H6 H' ∧ ∃ ps' : Bl, H' F = some (.lst ps'.vs) ∧ BlAt K H' ps' ∧ (∀ q ∈ ps', q.1 ≠ F) ∧ ps'.length ≤ 4 * i + 2 * j ∧ ps'.bows = ps.bows ++ (two.take j).flatMap fun q => twoOf q.2.bows)
        ⟨⟨_, _, rfl⟩, But.refl _ _, ps, s16 _ _ f1, f2.same s16, f3, by omega, by simp⟩ (fun j σ H' _ ⟨_, bt, _⟩ => .inl (.inl (bt _ _ st (ne_of st (s16 _ _ f1) (by intro z; cases z))))) ?_ ?_
      · rintro j x σ H7 hx7 ⟨⟨x2, x3, rfl⟩, bt, ps', g1, g2, g3, g4, g5⟩
        obtain ⟨q, hq, rfl⟩ : ∃ q, two[j]? = some q ∧ V.ref q.1 = x := by rw [List.getElem?_map] at hx7; exact Option.map_eq_some_iff.mp hx7
        have hqm := List.mem_of_getElem? hq
        have hj2 : j < 2 := (List.getElem?_eq_some_iff.mp hq).1
        obtain ⟨w1, w2, w3⟩ := two_at q hqm
        have nqF := two_ne q hqm
        have b100 : (100 : Nat) ≤ sizeLine := by decide
        -- the first
        refine ⟨_, rfl, .inl ⟨rfl, _, .inl (.inl g1)⟩, _, rfl, F, _, _, rfl, rfl, g1, by rw [List.length_map]; omega, ?_⟩
        have h8F : (upd H7 F (.lst (ps'.vs ++ [V.ref q.1]))) F = some (.lst (ps'.vs ++ [V.ref q.1])) := upd_same
        have bt8 : But F H6 (upd H7 F (.lst (ps'.vs ++ [V.ref q.1]))) := bt.trans (But.upd F H7 _)
        have w2' : BowsT K (upd H7 F (.lst (ps'.vs ++ [V.ref q.1]))) q.2 := w2.but bt8 (s16 _ _ f1)
        have k8 : BlAt K (upd H7 F (.lst (ps'.vs ++ [V.ref q.1]))) (ps' ++ [(q.1, q.2)]) := (BlAt.store g1 g3 g2).snoc (bt8 _ _ w1 nqF) w2' w3
        generalize upd H7 F (.lst (ps'.vs ++ [V.ref q.1])) = H8 at h8F bt8 k8 w2' ⊢
        -- the second
        refine ⟨_, rfl, .inl ⟨rfl, _, .inl (.inl h8F)⟩, ?_⟩
        refine ⟨by show 5 ≤ sizeLine; decide, fun t5 ht5 => ⟨t5, rfl, ⟨_, .inl (.inl upd_same)⟩, fun D hD => ?_⟩⟩
        have s5' := same_upd (o := .tup [V.int 0, V.int 2, V.int 4, V.int 1, V.int 3]) ht5
        have h9 : (upd H8 t5 (.tup [V.int 0, V.int 2, V.int 4, V.int 1, V.int 3])) t5 = some (.tup [V.int 0, V.int 2, V.int 4, V.int 1, V.int 3]) := upd_same
        generalize upd H8 t5 (.tup [V.int 0, V.int 2, V.int 4, V.int 1, V.int 3]) = H9 at s5' h9 hD ⊢
        have q8 := bt8 _ _ w1 nqF
        refine lc_accT (accM [0, 2, 4, 1, 3] fun i => V.ref (q.2.getD i (0, (0, 1))).1) (.inl (.inl h9)) (by show 5 ≤ sizeLine; decide) hD rfl (fun m x H10 hx10 s10 _ K1 K0 k1 k0 => ?_) fun H10 s10 e10 => ?_
        · obtain ⟨z, hz, rfl⟩ : ∃ z, ([0, 2, 4, 1, 3] : List Nat)[m]? = some z ∧ V.int (z : Nat) = x := by
            have e : [V.int 0, V.int 2, V.int 4, V.int 1, V.int 3] = ([0, 2, 4, 1, 3] : List Nat).map fun n : Nat => V.int n := rfl
            rw [e, List.getElem?_map] at hx10
            exact Option.map_eq_some_iff.mp hx10
          have hz5 : z < q.2.length := by
            have h5 : ∀ i ∈ ([0, 2, 4, 1, 3] : List Nat), i < 5 := by decide
            have := h5 z (List.mem_of_getElem? hz)
            omega
          refine ⟨rfl, _, rfl, _, rfl, q.1, _, _, V.ref (q.2.getD z (0, (0, 1))).1, rfl, rfl, .inl (.inl (s10 _ _ (s5' _ _ q8))), atI_nat (by rw [List.getElem?_map, List.getD_eq_getElem?_getD, List.getElem?_eq_getElem hz5]; rfl), ?_⟩
          exact k1 _ _ (Same.refl _) (accM_succ (f := fun i => V.ref (q.2.getD i (0, (0, 1))).1) hz)
        · rw [accM_all (by rfl)] at e10
          have e10' : H10 D = some (.lst (fiveB q.2).vs) := by rw [e10]; unfold fiveB; rw [show Bs.vs = fun bs : Bs => bs.map fun b => V.ref b.1 from rfl]; dsimp only; rw [List.map_map]; rfl
          have s810 := s5'.trans s10
          have f10 := s810 _ _ h8F
          have nDF : D ≠ F := fun z => by rw [z] at hD; rw [s5' _ _ h8F] at hD; cases hD
          have l5f : (fiveB q.2).length = 5 := rfl
          have k10 : BlAt K H10 ((ps' ++ [(q.1, q.2)]) ++ [(D, fiveB q.2)]) := (k8.same s810).snoc e10' (fun b hb => (w2'.same s810) b (fiveB_mem w3 b hb)) l5f
          have ne10 : ∀ r ∈ (ps' ++ [(q.1, q.2)]) ++ [(D, fiveB q.2)], r.1 ≠ F := fun r hr => by
            rcases List.mem_append.mp hr with h | h
            · rcases List.mem_append.mp h with h | h
              · exact g3 r h
              · rw [List.mem_singleton.mp h]; exact nqF
            · rw [List.mem_singleton.mp h]; exact nDF
          refine ⟨F, _, _, rfl, rfl, f10, by rw [List.length_append, List.length_map]; simp; omega, ⟨_, _, rfl⟩, (bt8.trans (But.of_same s810)).trans (But.upd F H10 _), (ps' ++ [(q.1, q.2)]) ++ [(D, fiveB q.2)], ?_, BlAt.store f10 ne10 k10, ne10, by rw [List.length_append, List.length_append]; simp; omega, ?_⟩
          · rw [upd_same]
            unfold Bl.vs
            rw [List.map_append, List.map_append]
            rfl
          · unfold Bl.bows at g5 ⊢
            rw [List.map_append, List.map_append, g5, List.take_add_one, hq, List.flatMap_append, List.append_assoc, List.append_assoc]
            congr 2
            show [q.2.bows] ++ [(fiveB q.2).bows] = _
            rw [fiveB_bows w3]
            simp [twoOf]
      · rintro σ H7 ⟨⟨x2, x3, rfl⟩, bt, ps', g1, g2, g3, g4, g5⟩
        refine ⟨⟨_, _, _, rfl⟩, fun b o e => bt _ _ (s16 _ _ (s1 _ _ e)) (ne_of_none e hF), ps', g1, g2, g3, by have : two.vs.length = 2 := rfl; omega, ?_⟩
        have ht2 : two.take two.vs.length = two := rfl
        rw [g5, ht2, f5, List.take_add_one, List.flatMap_append, hring]
        congr 1
        show twoOf rq.2.bows ++ (twoOf bs'.bows ++ []) = (twoOf rq.2.bows ++ twoOf (rq.2.bows.map turn1)) ++ []
        rw [List.append_nil, List.append_nil, eT]
    · rintro σ H1 ⟨⟨x1, x2, x3, rfl⟩, s1, ps, f1, f2, f3, f4, f5⟩
      rw [List.length_map, lrps] at f5
      exact ⟨_, rfl, Qk F H1 ps f1 f2 f5 s1⟩
end
end Bw
end
section
set_option Elab.async false
set_option linter.all false
set_option maxRecDepth 100000
set_option maxHeartbeats 4000000
/-! Walks over own objects by name; the table AHEAD. -/
namespace Bw
open PySem PySem.Spec PyProof.Rows L2
section
variable {X : Cx} {K0 : PySem.W.Frag} {C fld : Str} {k : Nat}
theorem Dt.walk (hK : X.K = K0) (D : Dt X.prog X.w X.K X.mg X.base C fld k) (hr : Room k X.A) {tg e : Expr} {te : TE} (he : PE X e te) : PI X tg e (iOwn K0 (He.ga K0 C) fld te) := by
  subst hK
  exact pi_own D.run D.at_.at_ D.at_.fn hr he
theorem Dt.enum (hK : X.K = K0) (D : Dt X.prog X.w X.K X.mg X.base C fld k) (hr : Room (k + 2) X.A) {e : Expr} {ta : TA} {p pos tpos : Pos} {elts : List Expr} {kk : Nat} (hg : Gl X "enumerate") (hm : X.mg "enumerate" = none) (ha : PA X [e] ta) (hst : starEach [e] X.env = [(false, eval e X.env)] := by rfl) :
    PI X (.Tuple elts kk tpos) (.Call (.Name "enumerate" p) [e] [] pos) (iEnumOwn K0 (He.ga K0 C) fld ta) := by
  subst hK
  exact pi_enumOwn D.run D.at_.at_ D.at_.fn hr hg hm ha hst
theorem ix_kdict_k (hK : X.K = K0) {w0 : World} (hw : X.w = w0) : IxR X (rIxD K0 w0) := hK ▸ hw ▸ ix_kdict
end
section
variable {w : World} {K : PySem.W.Frag} {mg : Str → Option Value} {base : Heap}
/-- the direction that stands for a way -/
def aheadW : Way → Dir
  | .apart => .before | .begun => .starts | .chained => .meets | .crossing => .crosses | .ended => .finished | _ => .same
theorem Cy.ahead (c : Cy w K mg base) {x : Way} (h1 : x ≠ .same) (h2 : x ≠ .within) : KDct K w (He.ga K "AHEAD") (nmW x) (.str (nmD (aheadW x))) := by
  have hm : (nmW x, He.Dv.str (nmD (aheadW x))) ∈ aheadD := by
    cases x <;> first | exact absurd rfl h1 | exact absurd rfl h2 | simp [aheadD, nmW, nmD, aheadW]
  have h := c.says.2
  unfold moreB at h
  obtain ⟨u, hu, r⟩ := He.valsB_ok (He.ba (He.ba (He.ba h).2).2).1 hm
  obtain ⟨es, n, hd⟩ := c.says.1.tab 0
  exact ⟨es, n, u, hd.1, hd.2, hu, r⟩
end
end Bw
end
section
set_option Elab.async false
set_option linter.all false
set_option maxRecDepth 100000
set_option maxHeartbeats 4000000
namespace Bw
open PySem PySem.Spec PyProof.Rows L2
section
variable {w : World} {K : PySem.W.Frag} {mg : Str → Option Value} {base : Heap}
def spRingFor (K : PySem.W.Frag) : Sp := fun vs H Q _ => ∃ (q : Addr) (k : Kd), vs = [.ref q] ∧ KindAt K H q k ∧ ∀ H', Same H H' → (tightK k = true → Q .non H') ∧ (tightK k = false → ∀ a, Q (.ref a) H')
theorem sc_ring_for : FnScope ["kind", "found", "bows"] ["kind"] (defScope s_ring_for) := ⟨rfl, rfl, rfl, by decide +kernel, rfl, by decide +kernel, by decide +kernel⟩
theorem ok_ring_for (c : Cy w K mg base) : Dn PG w K mg base "ring_for" 10 ["kind"] (spRingFor K) := by
  obtain ⟨fd, F⟩ := c.fd_ring_for
  have D_known_rings := ok_known_rings c
  have D_is_ring := ok_is_ring c
  refine ⟨walkD F sc_ring_for (fun vs H Q E h => ?_) (fun cdv A outer s H vs Q E hr h => ?_) fun _ _ _ _ _ _ us hl => match us, hl with | [_], _ => rfl, c.m_ring_for, F.kp⟩
  · obtain ⟨a, _, rfl, _⟩ := h
    rfl
  · obtain ⟨q, k, rfl, hk, Qk⟩ := h
    have hu := hu_of hr
    refine ⟨_, (pss_cons (ps_setLc (i := 1) rfl sc_ring_for.nd rfl rfl (sw_true rfl rfl rfl (by decide +kernel)) (pi_list_k (K0 := K) (by rfl) (D_known_rings.call0 (hr.mono (by decide)) rfl)) (blkOk_by (own := [("bows", 2)]) (by show blkC ["kind", "found", "bows"] (defScope s_ring_for) _ _ = true; decide +kernel)) (fun _ _ _ _ _ => (pg_name (i := 2) sc_ring_for.nd rfl (by first | exact Or.inl rfl | exact Or.inr rfl))) (fun _ _ _ _ _ => (pts_one (pt_val (D_is_ring.call (hr.mono (by decide)) rfl (pa_cons (pv 0) (pa_cons (pv 2) pa_nil)))))) (fun _ _ _ _ _ => (pv 2)))
      (pss_one (ps_ret (pe_ifExp (pt_cmpR (op_neNil_k (K0 := K) (by rfl) hu) (pv 1) (pe_lst pa_nil) (nomark _)) (pe_ix (ix_list_k (K0 := K) (by rfl)) (pv 1) pe_int (fun _ _ => rfl)) pe_non)))), ?_⟩
    refine ⟨rfl, fun a H1 ps p1 p2 p3 s1 => ⟨a, rfl, ⟨_, .inl (.inl p1)⟩, fun D hD => ?_⟩⟩
    have lps : ps.length = 24 := by
      have := congrArg List.length p3
      rw [List.length_map] at this
      exact this
    have os : OsAt H1 (ps.map fun r => (r.1, HO.lst r.2.vs)) := fun x hx => by
      obtain ⟨r, hr', rfl⟩ := List.mem_map.mp hx
      exact (p2 r hr').1
    refine lc_objL (fun r => r ≠ D) (fun _ h => h) (accOF ps (fun r => ringOk k r.2.bows) fun r => HO.lst r.2.vs) (.inl (.inl p1)) (by rw [List.length_map, lps]; decide) hD rfl (fun i x H2 hx s2 _ K1 K0 k1 k0 => ?_) fun H2 qs s2 e1 e2 e3 _ => ?_
    · obtain ⟨r, hr', rfl⟩ : ∃ r, ps[i]? = some r ∧ V.ref r.1 = x := by rw [List.getElem?_map] at hx; exact Option.map_eq_some_iff.mp hx
      obtain ⟨w1, w2, w3⟩ := p2 r (List.mem_of_getElem? hr')
      refine ⟨rfl, _, rfl, _, rfl, q, r.1, k, r.2, rfl, hk.same (s1.trans s2), s2 _ _ w1, w2.same s2, w3, fun H3 s3 => ⟨_, rfl, ?_⟩⟩
      refine iteB (fun h => ?_) (fun h => ?_)
      · exact ⟨_, rfl, k1 r.1 _ _ s3 (fun z => by rw [z, hD] at w1; cases w1) (s3 _ _ (s2 _ _ w1)) (accOF_yes hr' h)⟩
      · exact k0 _ s3 (accOF_no hr' h)
    · rw [accOF_all (by rw [List.length_map])] at e2
      have lq := os_len e2
      have et : tightK k = !((ps.map fun r => r.2.bows).any (ringOk k)) := by unfold tightK; rw [← p3]
      have sn := s1.trans s2
      refine ⟨_, rfl, Nat.zero_le _, fun n hn => ⟨D, n, _, rfl, rfl, .inl (.inl ((same_upd hn) _ _ e1)), .inl (.inl upd_same), _, rfl, ?_⟩⟩
      have Qn := Qk _ (sn.trans (same_upd (o := .lst []) hn))
      cases qs with
      | nil =>
        refine iteF ?_
        refine Qn.1 ?_
        rw [et]
        have : ps.filter (fun r => ringOk k r.2.bows) = [] := List.length_eq_zero_iff.mp lq.symm
        rw [List.any_map, Bool.not_eq_true', List.any_eq_false]
        intro r hr' h
        have hm : r ∈ ps.filter (fun r => ringOk k r.2.bows) := List.mem_filter.mpr ⟨hr', h⟩
        rw [this] at hm
        cases hm
      | cons z zs =>
        refine iteT ?_
        refine ⟨_, rfl, D, _, 0, _, rfl, rfl, .inl (.inl ((same_upd hn) _ _ e1)), atI_nat (j := 0) rfl, Qn.2 ?_ _⟩
        rw [et, Bool.not_eq_false', List.any_map, List.any_eq_true]
        cases hf : ps.filter (fun r => ringOk k r.2.bows) with
        | nil => rw [hf] at lq; cases lq
        | cons r rs =>
          obtain ⟨a1, a2⟩ := List.mem_filter.mp (show r ∈ ps.filter (fun r => ringOk k r.2.bows) by rw [hf]; exact List.mem_cons_self ..)
          exact ⟨r, a1, a2⟩
def spTight (K : PySem.W.Frag) : Sp := fun vs H Q _ => ∃ (q : Addr) (k : Kd), vs = [.ref q] ∧ KindAt K H q k ∧ ∀ H', Same H H' → Q (.bl (tightK k)) H'
theorem sc_is_tight : FnScope ["kind"] ["kind"] (defScope s_is_tight) := ⟨rfl, rfl, rfl, by decide +kernel, rfl, by decide +kernel, by decide +kernel⟩
theorem ok_is_tight (c : Cy w K mg base) : Dn PG w K mg base "is_tight" 11 ["kind"] (spTight K) := by
  obtain ⟨fd, F⟩ := c.fd_is_tight
  have D_ring_for := ok_ring_for c
  refine ⟨walkD F sc_is_tight (fun vs H Q E h => ?_) (fun cdv A outer s H vs Q E hr h => ?_) fun _ _ _ _ _ _ us hl => match us, hl with | [_], _ => rfl, c.m_is_tight, F.kp⟩
  · obtain ⟨a, _, rfl, _⟩ := h
    rfl
  · obtain ⟨q, k, rfl, hk, Qk⟩ := h
    refine ⟨_, (pss_one (ps_ret (pe_cmpR op_isN (D_ring_for.call (hr.mono (by decide)) rfl (pa_cons (pv 0) pa_nil)) pe_non (nomark _)))), ?_⟩
    refine ⟨_, rfl, q, k, rfl, hk, fun H' s' => ⟨fun ht => ⟨rfl, ?_⟩, fun hf a => ⟨rfl, ?_⟩⟩⟩
    · have := Qk H' s'
      rw [ht] at this
      exact this
    · have := Qk H' s'
      rw [hf] at this
      exact this
end
end Bw
end
section
set_option Elab.async false
set_option linter.all false
set_option maxRecDepth 100000
set_option maxHeartbeats 4000000
namespace Bw
open PySem PySem.Spec PyProof.Rows L2
/-- the kind that the paper is made of; its ways but «same» -/
def oneK (k : Kd) : Kd := if k .within = true then (fun y => !k y) else k
def nonSame (k : Kd) : List Way := (waysOf (oneK k)).filter fun y => !decide (y = .same)
theorem nonSame_ok {k : Kd} {y : Way} (h : y ∈ nonSame k) : y ≠ .same ∧ y ≠ .within := by
  obtain ⟨h1, h2⟩ := List.mem_filter.mp h
  refine ⟨by simpa using h2, fun e => ?_⟩
  rw [mem_waysOf] at h1
  subst e
  unfold oneK at h1
  split at h1
  · rename_i hw
    have : (!k .within) = true := h1
    rw [hw] at this
    cases this
  · rename_i hw
    exact hw h1
theorem tight_not : ∀ a b c d e f g : Bool, tightK (kd7 a b c d e f g) = true → tightK (fun y => !(kd7 a b c d e f g y)) = true := by decide +kernel
theorem tight_inv (k : Kd) (h : tightK k = true) : tightK (fun y => !k y) = true := by
  revert h
  exact forKd (p := fun k => tightK k = true → tightK (fun y => !k y) = true) tight_not k
section
variable {w : World} {K : PySem.W.Frag} {mg : Str → Option Value} {base : Heap}
abbrev dS (l : List Way) : List PyData := l.map fun y => PyData.str (nmW y)
theorem dpAll_ws (H : Hp) : ∀ l : List Way, DpAll K H (wsV l) (dS l)
  | [] => .nil
  | y :: l => .cons (.str _) (dpAll_ws H l)
theorem eqv_dS : ∀ l m : List Way, PyData.eqvAll (dS l) (dS m) = decide (l = m)
  | [], [] => by simp [PyData.eqvAll]
  | [], _ :: _ => by simp [PyData.eqvAll]
  | _ :: _, [] => by simp [PyData.eqvAll]
  | a :: l, b :: m => by
    show PyData.eqvAll (PyData.str (nmW a) :: dS l) (PyData.str (nmW b) :: dS m) = _
    rw [PyData.eqvAll, eqv_dS l m, PyData.eqv]
    by_cases h1 : a = b
    · subst h1
      simp
    · have h2 : ¬ nmW a = nmW b := fun h => h1 (nmW_inj h)
      simp [h1, h2]
theorem canLay_way (a : Way) : (PyData.str (nmW a)).canLay0 = true := by cases a <;> decide +kernel
theorem canLay_dS : ∀ l : List Way, PyData.canLayAll0 (dS l) = true
  | [] => rfl
  | a :: l => by
    show PyData.canLayAll0 (PyData.str (nmW a) :: dS l) = true
    rw [PyData.canLayAll0, canLay_dS l, canLay_way a]
    rfl
theorem depth_dS : ∀ l : List Way, PyData.depthAll (dS l) ≤ 1
  | [] => by decide
  | a :: l => by
    show PyData.depthAll (PyData.str (nmW a) :: dS l) ≤ 1
    rw [PyData.depthAll]
    exact Nat.max_le.mpr ⟨by rw [PyData.depth]; omega, depth_dS l⟩
theorem shaped_dS (l : List Way) : SeqAt.shaped (.list (dS l)) = true := by
  unfold SeqAt.shaped
  rw [PyData.canLay0, canLay_dS, PyData.depth, decide_eq_true (by have := depth_dS l; omega)]
  rfl
/-- sorted of a list of directions -/
theorem rSorted_ds {H : Hp} {Q : VK} {a : Addr} {ds : List Dir} (h : H a = some (.lst (txs (ds.map nmD)))) (q : ∀ r (us : List Dir), H r = none → us.Perm ds → Q (.ref r) (upd H r (.lst (txs (us.map nmD))))) : rSortedG K [.ref a] H Q := by
  let f : Dir → V × PyData := fun x => (V.str (nmD x), PyData.str (nmD x))
  refine ⟨a, ds.map f, rfl, .inl (.inl (by rw [h, List.map_map]; show _ = some (HO.lst _); unfold txs; rw [List.map_map]; rfl)), fun p hp => ?_, fun d hd d' hd' => ?_, .inr fun d hd => ?_, fun p hp => ?_, fun r hr => ?_⟩
  · obtain ⟨x, _, rfl⟩ := List.mem_map.mp hp
    exact .str _
  · rw [List.map_map] at hd hd'
    obtain ⟨x, _, rfl⟩ := List.mem_map.mp hd
    obtain ⟨y, _, rfl⟩ := List.mem_map.mp hd'
    show PySem.W.alike (.str _) (.str _) = true
    simp [PySem.W.alike]
  · rw [List.map_map] at hd
    obtain ⟨x, _, rfl⟩ := List.mem_map.mp hd
    exact ⟨(by intro z; cases z), fun xs z => by cases z⟩
  · obtain ⟨x, _, rfl⟩ := List.mem_map.mp hp
    show PyData.depth (.str _) ≤ 60
    rw [PyData.depth]
    omega
  · let rr : Dir → Dir → Bool := fun x y => PySem.W.dataLe false Prod.snd (f x) (f y)
    have em : (ds.map f).mergeSort (PySem.W.dataLe false Prod.snd) = (ds.mergeSort rr).map f := (List.map_mergeSort (r := rr) (s := PySem.W.dataLe false Prod.snd) (f := f) (l := ds) fun _ _ _ _ => rfl).symm
    rw [em]
    have := q r (ds.mergeSort rr) hr (List.mergeSort_perm _ _)
    rw [List.map_map]
    unfold txs at this
    rw [List.map_map] at this
    exact this
def spPaper (K : PySem.W.Frag) : Sp := fun vs H Q _ => ∃ (q : Addr) (k : Kd), vs = [.ref q] ∧ KindAt K H q k ∧ tightK k = true ∧ ∀ t H', Same H H' →
  (nonSame k = [.begun, .ended] → H' t = some (.tup [.str "ends", .str (if k .within = true then "lacked" else "kept")]) → Q (.ref t) H') ∧
  (nonSame k ≠ [.begun, .ended] → ∀ L (ds : List Dir), H' L = some (.lst (txs (ds.map nmD))) → (∀ d, d ∈ ds ↔ ∃ y ∈ nonSame k, d = aheadW y) → H' t = some (.tup [.str (if k .within = true then "levels" else "chains"), .ref L]) → Q (.ref t) H')
theorem sc_need_paper : FnScope ["kind", "word", "one", "ways", "way"] ["kind"] (defScope s_need_paper) := ⟨rfl, rfl, rfl, by decide +kernel, rfl, by decide +kernel, by decide +kernel⟩
theorem ok_need_paper (c : Cy w K mg base) : Dn PG w K mg base "need_paper" 12 ["kind"] (spPaper K) := by
  obtain ⟨fd, F⟩ := c.fd_need_paper
  have D_is_tight := ok_is_tight c
  have D_Kind___contains__ := ok_Kind_contains c
  have D_Kind___invert__ := ok_Kind_invert c
  have D_Kind___iter__ := ok_Kind_iter c
  refine ⟨walkD F sc_need_paper (fun vs H Q E h => ?_) (fun cdv A outer s H vs Q E hr h => ?_) fun _ _ _ _ _ _ us hl => match us, hl with | [_], _ => rfl, c.m_need_paper, F.kp⟩
  · obtain ⟨a, _, rfl, _⟩ := h
    rfl
  · obtain ⟨q, k, rfl, hk, ht, Qk⟩ := h
    have hu := hu_of hr
    refine ⟨_, (pss_cons (ps_if (pt_not (pt_val (D_is_tight.call (hr.mono (by decide)) rfl (pa_cons (pv 0) pa_nil)))) (pss_one ps_never) pss_nil)
      (pss_cons (ps_asg (pe_ifExp (pt_cmpR (Dm.in_ (K0 := K) (by rfl) D_Kind___contains__ (hr.mono (by decide))) pe_str (pv 0) (by rfl)) (pe_tup (pa_cons pe_str (pa_cons (pe_un (Dm.inv (K0 := K) (by rfl) D_Kind___invert__ (hr.mono (by decide))) (pv 0)) pa_nil))) (pe_tup (pa_cons pe_str (pa_cons (pv 0) pa_nil)))) (pg_tup_k (K0 := K) (n := 2) (by rfl) (by rfl) (pgs_cons (pg_name (i := 1) sc_need_paper.nd rfl (by first | exact Or.inl rfl | exact Or.inr rfl)) (pgs_cons (pg_name (i := 2) sc_need_paper.nd rfl (by first | exact Or.inl rfl | exact Or.inr rfl)) pgs_nil))))
      (pss_cons (ps_setLc (i := 3) rfl sc_need_paper.nd rfl rfl (sw_true rfl rfl rfl (by decide +kernel)) (Dt.walk (K0 := K) (by rfl) D_Kind___iter__ (hr.mono (by decide)) (pv 2)) (blkOk_by (own := [("way", 4)]) (by show blkC ["kind", "word", "one", "ways", "way"] (defScope s_need_paper) _ _ = true; decide +kernel)) (fun _ _ _ _ _ => (pg_name (i := 4) sc_need_paper.nd rfl (by first | exact Or.inl rfl | exact Or.inr rfl))) (fun _ _ _ _ _ => (pts_one (pt_cmpR op_ne (pv 4) pe_str (nomark _)))) (fun _ _ _ _ _ => (pv 4)))
      (pss_cons (ps_if (pt_cmpR (op_eqD_k (K0 := K) (by rfl) hr.units) (pv 3) (pe_lst (pa_cons pe_str (pa_cons pe_str pa_nil))) (nomark _)) (pss_one (ps_ret (pe_tup (pa_cons pe_str (pa_cons (pe_ifExp (pt_cmpR op_eq (pv 1) pe_str (nomark _)) pe_str pe_str) pa_nil))))) pss_nil)
      (pss_one (ps_ret (pe_tup (pa_cons (pv 1) (pa_cons (pe_callB (cr_sortedG_k (K0 := K) (by rfl) (hu64 hr)) (by rfl) c.f_sorted (by decide +kernel) (pa_cons (pe_lc rfl sc_need_paper.nd (pi_list_k (K0 := K) (by rfl) (pv 3)) (blkOk_by (own := [("way", 4)]) (by show blkC ["kind", "word", "one", "ways", "way"] (defScope s_need_paper) _ _ = true; decide +kernel)) (fun _ _ _ _ _ => (pg_name (i := 4) sc_need_paper.nd rfl (by first | exact Or.inl rfl | exact Or.inr rfl))) (fun _ _ _ _ _ => pts_nil) (fun _ _ _ _ _ => (pe_ix (ix_kdict_k (K0 := K) (by rfl) (w0 := w) (by rfl)) (pe_glob (v := .ref (He.ga K "AHEAD")) rfl c.m_AHEAD rfl) (pv 4) (fun _ _ => rfl)))) pa_nil)) pa_nil))))))))), ?_⟩
    refine ⟨_, rfl, q, k, rfl, hk, fun H1 s1 => ⟨_, rfl, ?_⟩⟩
    rw [ht]
    refine iteF ?_
    have hk1 := hk.same s1
    obtain ⟨dx, l, e1, e2⟩ := hk1.ex
    refine ⟨_, rfl, ⟨q, dx, _, rfl, e1⟩, q, k, .within, rfl, hk1, _, rfl, _, rfl, ?_⟩
    refine iteB (fun hw => ?_) (fun hw => ?_)
    · refine ⟨_, rfl, ⟨q, dx, _, rfl, e1⟩, q, k, rfl, hk1, fun X H2 hX s2 => ⟨by show 2 ≤ sizeLine; decide, fun tu htu => ⟨tu, _, rfl, .inl (.inl upd_same), rfl, _, _, rfl, _, _, rfl, rfl, ?_⟩⟩⟩
      replace hX := hX.same (same_upd (o := .tup [V.str "levels", V.ref X]) htu)
      have S3 := s1.trans (s2.trans (same_upd (o := .tup [V.str "levels", V.ref X]) htu))
      generalize upd H2 tu (.tup [V.str "levels", V.ref X]) = H3 at hX S3 ⊢
      have o1 : oneK k = (fun y => !k y) := by unfold oneK; rw [if_pos hw]
      have sm3 : Same H H3 := S3
      obtain ⟨dx3, l3, g1, g2⟩ := hX.ex
      refine ⟨_, rfl, X, dx3, l3, _, _, rfl, g1, rfl, .inl (.inl g2), fun D hD => ?_⟩
      refine lc_accL (accF (waysOf (fun y => !k y)) (fun y => !decide (y = .same)) fun y => V.str (nmW y)) (.inl (.inl g2)) (by rw [List.length_map, List.length_map]; exact Nat.le_trans (List.length_filter_le _ _) (by decide)) hD rfl (fun i x H4 hx s4 _ K1 K0 k1 k0 => ?_) fun H4 s4 e4 => ?_
      · obtain ⟨z, hz, rfl⟩ : ∃ z, (waysOf (fun y => !k y))[i]? = some z ∧ V.str (nmW z) = x := by
          rw [List.getElem?_map, List.getElem?_map, Option.map_map] at hx
          exact Option.map_eq_some_iff.mp hx
        refine ⟨rfl, _, rfl, rfl, _, rfl, ?_⟩
        have eb : (!decide (V.str (nmW z) = V.str "same")) = (!decide (z = .same)) := by
          congr 1
          exact decide_eq_decide.mpr ⟨fun h => nmW_inj (by injection h), fun h => by rw [h]; rfl⟩
        show if (!decide (V.str (nmW z) = V.str "same")) = true then _ else _
        rw [eb]
        refine iteB (fun h => ?_) (fun h => ?_)
        · exact ⟨_, rfl, k1 _ _ (Same.refl _) (accF_yes hz h)⟩
        · exact k0 _ (Same.refl _) (accF_no hz h)
      · rw [accF_all (by rw [List.length_map, List.length_map])] at e4
        have en : nonSame k = (waysOf (fun y => !k y)).filter fun y => !decide (y = .same) := by unfold nonSame; rw [o1]
        have e4' : H4 D = some (.lst (wsV (nonSame k))) := by rw [e4, en]; unfold wsV txs; rw [List.map_map]; rfl
        have lns : (nonSame k).length ≤ 7 := by rw [en]; exact Nat.le_trans (List.length_filter_le _ _) (Nat.le_trans (List.length_filter_le _ _) (by decide))
        refine ⟨_, rfl, by show 2 ≤ sizeLine; decide, fun u hu => ?_⟩
        have su := same_upd (o := .lst [V.str "begun", V.str "ended"]) hu
        have eu : (upd H4 u (.lst [V.str "begun", V.str "ended"])) u = some (.lst (wsV [.begun, .ended])) := upd_same
        have eD := su _ _ e4'
        have sm5 := sm3.trans (s4.trans su)
        generalize upd H4 u (.lst [V.str "begun", V.str "ended"]) = H5 at su eu eD sm5 ⊢
        refine ⟨.list (dS (nonSame k)), .list (dS [.begun, .ended]), .lst (.inl (.inl eD)) (dpAll_ws _ _), .lst (.inl (.inl eu)) (dpAll_ws _ _), shaped_dS _, shaped_dS _, _, rfl, ?_⟩
        have ee : PyData.eqv (.list (dS (nonSame k))) (.list (dS [.begun, .ended])) = decide (nonSame k = [.begun, .ended]) := by
          rw [PyData.eqv]; exact eqv_dS _ _
        rw [ee]
        refine iteP (fun hbe => ?_) (fun hbe => ?_)
        · refine ⟨_, rfl, rfl, _, rfl, by
          refine iteF' (by decide) ?_
          refine ⟨by show 2 ≤ sizeLine; decide, fun tt htt => (Qk tt _ (sm5.trans (same_upd htt))).1 hbe (by rw [upd_same, if_pos hw])⟩⟩
        · refine ⟨_, rfl, ?_⟩
          refine ⟨_, rfl, D, rfl, ⟨_, .inl (.inl eD)⟩, fun L hL => ?_⟩
          refine lc_accL (accM (nonSame k) fun y => V.str (nmD (aheadW y))) (.inl (.inl eD)) (by rw [List.length_map, List.length_map]; exact Nat.le_trans lns (by decide)) hL rfl (fun i x H6 hx s6 _ K1 K0 k1 k0 => ?_) fun H6 s6 e6 => ?_
          · obtain ⟨z, hz, rfl⟩ : ∃ z, (nonSame k)[i]? = some z ∧ V.str (nmW z) = x := by
              rw [List.getElem?_map, List.getElem?_map, Option.map_map] at hx
              exact Option.map_eq_some_iff.mp hx
            obtain ⟨n1, n2⟩ := nonSame_ok (List.mem_of_getElem? hz)
            exact ⟨rfl, _, rfl, _, _, _, rfl, rfl, c.ahead n1 n2, k1 _ _ (Same.refl _) (accM_succ (f := fun y => V.str (nmD (aheadW y))) hz)⟩
          · rw [accM_all (by rw [List.length_map, List.length_map])] at e6
            have e6' : H6 L = some (.lst (txs (((nonSame k).map aheadW).map nmD))) := by rw [e6]; unfold txs; rw [List.map_map, List.map_map]; rfl
            dsimp only [L2.tNil]
            refine rSorted_ds e6' fun r us hr9 pm => ?_
            refine ⟨by show 2 ≤ sizeLine; decide, fun tt htt => ?_⟩
            have s9 := sm5.trans (s6.trans ((same_upd (o := .lst (txs (us.map nmD))) hr9).trans (same_upd (o := .tup [V.str "levels", V.ref r]) htt)))
            refine (Qk tt _ s9).2 hbe r us (same_upd htt _ _ upd_same) (fun d => ?_) (by rw [upd_same, if_pos hw])
            rw [pm.mem_iff, List.mem_map]
            exact ⟨fun ⟨y, h1, h2⟩ => ⟨y, h1, h2.symm⟩, fun ⟨y, h1, h2⟩ => ⟨y, h1, h2.symm⟩⟩
    · refine ⟨_, rfl, by show 2 ≤ sizeLine; decide, fun tu htu => ⟨tu, _, rfl, .inl (.inl upd_same), rfl, _, _, rfl, _, _, rfl, rfl, ?_⟩⟩
      have hX := hk1.same (same_upd (o := .tup [V.str "chains", V.ref q]) htu)
      have S3 := s1.trans (same_upd (o := .tup [V.str "chains", V.ref q]) htu)
      generalize upd H1 tu (.tup [V.str "chains", V.ref q]) = H3 at hX S3 ⊢
      generalize hXq : q = X at hX ⊢
      have o1 : oneK k = k := by unfold oneK; rw [if_neg (by rw [hw]; exact Bool.false_ne_true)]
      have sm3 : Same H H3 := S3
      obtain ⟨dx3, l3, g1, g2⟩ := hX.ex
      refine ⟨_, rfl, X, dx3, l3, _, _, rfl, g1, rfl, .inl (.inl g2), fun D hD => ?_⟩
      refine lc_accL (accF (waysOf k) (fun y => !decide (y = .same)) fun y => V.str (nmW y)) (.inl (.inl g2)) (by rw [List.length_map, List.length_map]; exact Nat.le_trans (List.length_filter_le _ _) (by decide)) hD rfl (fun i x H4 hx s4 _ K1 K0 k1 k0 => ?_) fun H4 s4 e4 => ?_
      · obtain ⟨z, hz, rfl⟩ : ∃ z, (waysOf k)[i]? = some z ∧ V.str (nmW z) = x := by
          rw [List.getElem?_map, List.getElem?_map, Option.map_map] at hx
          exact Option.map_eq_some_iff.mp hx
        refine ⟨rfl, _, rfl, rfl, _, rfl, ?_⟩
        have eb : (!decide (V.str (nmW z) = V.str "same")) = (!decide (z = .same)) := by
          congr 1
          exact decide_eq_decide.mpr ⟨fun h => nmW_inj (by injection h), fun h => by rw [h]; rfl⟩
        show if (!decide (V.str (nmW z) = V.str "same")) = true then _ else _
        rw [eb]
        refine iteB (fun h => ?_) (fun h => ?_)
        · exact ⟨_, rfl, k1 _ _ (Same.refl _) (accF_yes hz h)⟩
        · exact k0 _ (Same.refl _) (accF_no hz h)
      · rw [accF_all (by rw [List.length_map, List.length_map])] at e4
        have en : nonSame k = (waysOf k).filter fun y => !decide (y = .same) := by unfold nonSame; rw [o1]
        have e4' : H4 D = some (.lst (wsV (nonSame k))) := by rw [e4, en]; unfold wsV txs; rw [List.map_map]; rfl
        have lns : (nonSame k).length ≤ 7 := by rw [en]; exact Nat.le_trans (List.length_filter_le _ _) (Nat.le_trans (List.length_filter_le _ _) (by decide))
        refine ⟨_, rfl, by show 2 ≤ sizeLine; decide, fun u hu => ?_⟩
        have su := same_upd (o := .lst [V.str "begun", V.str "ended"]) hu
        have eu : (upd H4 u (.lst [V.str "begun", V.str "ended"])) u = some (.lst (wsV [.begun, .ended])) := upd_same
        have eD := su _ _ e4'
        have sm5 := sm3.trans (s4.trans su)
        generalize upd H4 u (.lst [V.str "begun", V.str "ended"]) = H5 at su eu eD sm5 ⊢
        refine ⟨.list (dS (nonSame k)), .list (dS [.begun, .ended]), .lst (.inl (.inl eD)) (dpAll_ws _ _), .lst (.inl (.inl eu)) (dpAll_ws _ _), shaped_dS _, shaped_dS _, _, rfl, ?_⟩
        have ee : PyData.eqv (.list (dS (nonSame k))) (.list (dS [.begun, .ended])) = decide (nonSame k = [.begun, .ended]) := by
          rw [PyData.eqv]; exact eqv_dS _ _
        rw [ee]
        refine iteP (fun hbe => ?_) (fun hbe => ?_)
        · refine ⟨_, rfl, rfl, _, rfl, by
          refine iteT' (by decide) ?_
          refine ⟨by show 2 ≤ sizeLine; decide, fun tt htt => (Qk tt _ (sm5.trans (same_upd htt))).1 hbe (by rw [upd_same, if_neg (by rw [hw]; exact Bool.false_ne_true)])⟩⟩
        · refine ⟨_, rfl, ?_⟩
          refine ⟨_, rfl, D, rfl, ⟨_, .inl (.inl eD)⟩, fun L hL => ?_⟩
          refine lc_accL (accM (nonSame k) fun y => V.str (nmD (aheadW y))) (.inl (.inl eD)) (by rw [List.length_map, List.length_map]; exact Nat.le_trans lns (by decide)) hL rfl (fun i x H6 hx s6 _ K1 K0 k1 k0 => ?_) fun H6 s6 e6 => ?_
          · obtain ⟨z, hz, rfl⟩ : ∃ z, (nonSame k)[i]? = some z ∧ V.str (nmW z) = x := by
              rw [List.getElem?_map, List.getElem?_map, Option.map_map] at hx
              exact Option.map_eq_some_iff.mp hx
            obtain ⟨n1, n2⟩ := nonSame_ok (List.mem_of_getElem? hz)
            exact ⟨rfl, _, rfl, _, _, _, rfl, rfl, c.ahead n1 n2, k1 _ _ (Same.refl _) (accM_succ (f := fun y => V.str (nmD (aheadW y))) hz)⟩
          · rw [accM_all (by rw [List.length_map, List.length_map])] at e6
            have e6' : H6 L = some (.lst (txs (((nonSame k).map aheadW).map nmD))) := by rw [e6]; unfold txs; rw [List.map_map, List.map_map]; rfl
            dsimp only [L2.tNil]
            refine rSorted_ds e6' fun r us hr9 pm => ?_
            refine ⟨by show 2 ≤ sizeLine; decide, fun tt htt => ?_⟩
            have s9 := sm5.trans (s6.trans ((same_upd (o := .lst (txs (us.map nmD))) hr9).trans (same_upd (o := .tup [V.str "chains", V.ref r]) htt)))
            refine (Qk tt _ s9).2 hbe r us (same_upd htt _ _ upd_same) (fun d => ?_) (by rw [upd_same, if_neg (by rw [hw]; exact Bool.false_ne_true)])
            rw [pm.mem_iff, List.mem_map]
            exact ⟨fun ⟨y, h1, h2⟩ => ⟨y, h1, h2.symm⟩, fun ⟨y, h1, h2⟩ => ⟨y, h1, h2.symm⟩⟩
end
end Bw
end
section
set_option Elab.async false
set_option linter.all false
set_option maxRecDepth 100000
set_option maxHeartbeats 4000000
namespace Bw
open PySem PySem.Spec PyProof.Rows L2
section
variable {P : Program} {w : World} {K : PySem.W.Frag} {mg : Str → Option Value} {base : Heap} {x qual : Str} {params : Arguments} {body : List Stmt} {scope : Scope} {f : Addr} {fd : FuncData} {N ps : List Str} {k n : Nat} {sp : Sp} {kws : List (Str × V)}
/-- a def with a keyword-only «same», from its walk -/
theorem walkK (F : FunD K x qual params body scope [] kws f fd) (hk : kws ≠ []) (S : FnScope N ps scope) (len : ∀ vs H Q E, sp vs H Q E → vs.length = ps.length)
    (hbody : ∀ (cdv : Value) (A : Around) (outer : List Env) (s : Shared) (H : Hp) (vs : List V) (Q : VK) (E : XK), Room k (A.deeper (envOfC qual scope s.heap.objs.size f cdv)) → sp vs H Q E →
      ∃ t, PSs (cxOf CX0 P w K mg base N qual scope f cdv A outer s H E).nox body t ∧ t { nx := fun _ H' => Q .non H', rt := Q } (start N vs) H)
    (hb : ∀ (D : Addr) (doc pm : Value) (an : Option Addr) (cdv ct : Value) (us ws : List Value), us.length = n → ws.length = 1 → bindArgs (PySem.W.fnOf x qual params body scope .none (.ref D) doc pm an cdv ct) ⟨us, ([("same" : Str)]).zip ws⟩ = pure (ps.zip (us ++ ws))) :
    ∃ fd, FnOk P w K mg base CX0 (k + 1) f fd ps sp ∧ KBn K fd ps n [("same" : Str)] (fun us ws => us ++ ws) (fun vs zs => vs ++ zs) := by
  refine ⟨fd, F.ok S len fun cdv A outer s H vs Q E hr h => let ⟨t, h1, q⟩ := hbody cdv A outer s H vs Q E hr h; ⟨t, h1.nox, q⟩, ?_⟩
  obtain ⟨mv, h⟩ := F.kbinds0 (ps := ps) n [("same" : Str)] [] (fun us _ ws => us ++ ws) hk (fun q hq => absurd hq List.not_mem_nil) (fun r1 _ r3 => r1.append r3) fun D doc pm an cdv ct us mv ws l1 _ l3 => hb D doc pm an cdv ct us ws l1 l3
  exact h
end
section
variable {w : World} {K : PySem.W.Frag} {mg : Str → Option Value} {base : Heap}
/-- ahead, as the program asks it -/
def aheadB (ds : List Dir) (sm : Bool) (x y : Bow) (i j : Nat) : Bool := if dirOf x y = .same then sm && decide (i < j) else decide (dirOf x y ∈ ds)
theorem inV_dir (d : Dir) (ds : List Dir) : inV (.str (nmD d)) (txs (ds.map nmD)) = decide (d ∈ ds) := by
  rw [inV_str]
  refine decide_eq_decide.mpr ⟨fun h => ?_, fun h => List.mem_map.mpr ⟨d, h, rfl⟩⟩
  obtain ⟨y, hy, e⟩ := List.mem_map.mp h
  rw [← nmD_inj e]; exact hy
def spAhead (K : PySem.W.Frag) : Sp := fun vs H Q _ => ∃ (p a : Addr) (bs : Bs) (ds : List Dir) (i j : Nat) (b d : Addr × Bow) (sm : Bool), vs = [.ref p, .ref a, .int i, .int j, .bl sm] ∧ RowAt K H p bs ∧ H a = some (.lst (txs (ds.map nmD))) ∧ bs[i]? = some b ∧ bs[j]? = some d ∧
  Q (.bl (aheadB ds sm b.2 d.2 i j)) H
theorem sc_is_ahead : FnScope ["row", "directions", "i", "j", "same", "told"] ["row", "directions", "i", "j", "same"] (defScope s_is_ahead) := ⟨rfl, rfl, rfl, by decide +kernel, rfl, by decide +kernel, by decide +kernel⟩
theorem ok_is_ahead (c : Cy w K mg base) : Dk PG w K mg base "is_ahead" 4 5 ["row", "directions", "i", "j", "same"] (spAhead K) := by
  obtain ⟨fd, F⟩ := c.fd_is_ahead
  have D_Row___getitem__ := ok_Row_getitem c
  have D_direction_of := ok_direction_of c
  refine ⟨walkK F (by intro h; cases h) sc_is_ahead (fun vs H Q E h => ?_) (fun cdv A outer s H vs Q E hr h => ?_) fun _ _ _ _ _ _ us ws hl hw => match us, hl, ws, hw with | [_, _, _, _], _, [_], _ => rfl, c.m_is_ahead, F.kp⟩
  · obtain ⟨a, b, _, _, _, _, _, _, _, rfl, _⟩ := h
    rfl
  · obtain ⟨p, a, bs, ds, i, j, b, d, sm, rfl, hR, ha, hi, hj, Qk⟩ := h
    obtain ⟨dx, l, hp, hl⟩ := hR.ex
    have hb := hR.ok b (List.mem_of_getElem? hi)
    have hd := hR.ok d (List.mem_of_getElem? hj)
    refine ⟨_, (pss_cons (ps_set (i := 5) sc_is_ahead.nd rfl (by first | exact Or.inl rfl | exact Or.inr rfl) (D_direction_of.call (hr.mono (by decide)) rfl (pa_cons (Dm.ix (K0 := K) (by rfl) D_Row___getitem__ c.fi_Row (hr.mono (by decide)) (pv 0) (pv 2)) (pa_cons (Dm.ix (K0 := K) (by rfl) D_Row___getitem__ c.fi_Row (hr.mono (by decide)) (pv 0) (pv 3)) pa_nil))))
      (pss_cons (ps_if (pt_cmpR op_eq (pv 5) pe_str (nomark _)) (pss_one (ps_ret (pe_and (pv 4) (pe_one (pe_cmpR op_lt (pv 2) (pv 3) (nomark _)))))) pss_nil)
      (pss_one (ps_ret (pe_cmpR (op_in_seq_k (K0 := K) (by rfl)) (pv 5) (pv 1) (by rfl)))))), ?_⟩
    refine ⟨_, rfl, _, rfl, ⟨p, dx, _, rfl, hp⟩, p, bs, i, b, rfl, hR, hi, ?_⟩
    refine ⟨_, rfl, _, rfl, ⟨p, dx, _, rfl, hp⟩, p, bs, j, d, rfl, hR, hj, ?_⟩
    refine ⟨b.1, d.1, b.2, d.2, rfl, hb.1, hd.1, ?_⟩
    refine ⟨_, rfl, rfl, _, rfl, ?_⟩
    have eb : decide (V.str (nmD (dirOf b.2 d.2)) = V.str "same") = decide (dirOf b.2 d.2 = .same) := decide_eq_decide.mpr ⟨fun h => nmD_inj (b := .same) (by injection h), fun h => by rw [h]; rfl⟩
    show if decide (V.str (nmD (dirOf b.2 d.2)) = V.str "same") = true then _ else _
    rw [eb]
    unfold aheadB at Qk
    refine iteP (fun h => ?_) (fun h => ?_)
    · rw [if_pos h] at Qk
      refine ⟨_, rfl, sm, rfl, ?_⟩
      cases sm with
      | false => exact Qk
      | true =>
        refine iteT ⟨_, rfl, _, rfl, _, _, rfl, rfl, ?_⟩
        show Q (.bl (decide ((i : Int) < (j : Int)))) H
        rw [show decide ((i : Int) < (j : Int)) = (true && decide (i < j)) by rw [Bool.true_and]; exact decide_eq_decide.mpr (by omega)]
        exact Qk
    · rw [if_neg h] at Qk
      refine ⟨_, rfl, _, rfl, a, _, rfl, .inl (.inl (.inl ha)), rfl, flat_txs _, ?_⟩
      show Q (.bl (inV _ _)) H
      rw [inV_dir]
      exact Qk
/-- the table of who stands ahead of whom, as lists -/
def behL (A : Nat → Nat → Bool) (n : Nat) (i : Nat) : List Nat := (List.range n).filter fun j => A i j
def aheadR (ds : List Dir) (sm : Bool) (bs : List Bow) (i j : Nat) : Bool := aheadB ds sm (bs.getD i (0, 1)) (bs.getD j (0, 1)) i j
def spBehinds (K : PySem.W.Frag) : Sp := fun vs H Q _ => ∃ (p a : Addr) (bs : Bs) (ds : List Dir) (sm : Bool), vs = [.ref p, .ref a, .bl sm] ∧ RowAt K H p bs ∧ H a = some (.lst (txs (ds.map nmD))) ∧ bs.length ≤ 1000 ∧
  ∀ t H', LsAt H' t ((List.range bs.length).map (behL (aheadR ds sm bs.bows) bs.length)) → Same H H' → Q (.ref t) H'
theorem sc_behinds_of : FnScope ["row", "directions", "same", "places", "i", "j"] ["row", "directions", "same"] (defScope s_behinds_of) := ⟨rfl, rfl, rfl, by decide +kernel, rfl, by decide +kernel, by decide +kernel⟩
theorem ok_behinds_of (c : Cy w K mg base) : Dn PG w K mg base "behinds_of" 6 ["row", "directions", "same"] (spBehinds K) := by
  obtain ⟨fd, F⟩ := c.fd_behinds_of
  have D_Row___len__ := ok_Row_len c
  have D_is_ahead := ok_is_ahead c
  refine ⟨walkD F sc_behinds_of (fun vs H Q E h => ?_) (fun cdv A outer s H vs Q E hr h => ?_) fun _ _ _ _ _ _ us hl => match us, hl with | [_, _, _], _ => rfl, c.m_behinds_of, F.kp⟩
  · obtain ⟨a, _, _, _, _, rfl, _⟩ := h
    rfl
  · obtain ⟨p, a, bs, ds, sm, rfl, hR, ha, hlen, Qk⟩ := h
    obtain ⟨dx, l, hp, hl⟩ := hR.ex
    have b1000 : (1000 : Nat) ≤ sizeLine := by decide
    refine ⟨_, (pss_cons (ps_set (i := 3) sc_behinds_of.nd rfl (by first | exact Or.inl rfl | exact Or.inr rfl) (pe_listRg rfl (by rfl) c.f_list (prg_1 (by rfl) c.f_range (pe_callB (Dm.len (K0 := K) (by rfl) D_Row___len__ (hr.mono (by decide))) (by rfl) c.f_len PySem.boot_len (pa_cons (pv 0) pa_nil)))))
      (pss_one (ps_ret (pe_lc rfl sc_behinds_of.nd (pi_list_k (K0 := K) (by rfl) (pv 3)) (blkOk_by (own := [("i", 4)]) (by show blkC ["row", "directions", "same", "places", "i", "j"] (defScope s_behinds_of) _ _ = true; decide +kernel)) (fun _ _ _ _ _ => (pg_name (i := 4) sc_behinds_of.nd rfl (by first | exact Or.inl rfl | exact Or.inr rfl))) (fun _ _ _ _ _ => pts_nil) (fun _ _ _ _ _ => (pe_lc rfl sc_behinds_of.nd (pi_list_k (K0 := K) (by rfl) (pv 3)) (blkOk_by (own := [("j", 5)]) (by show blkC ["row", "directions", "same", "places", "i", "j"] (relS _ (defScope s_behinds_of)) _ _ = true; decide +kernel)) (fun _ _ _ _ _ => (pg_name (i := 5) sc_behinds_of.nd rfl (by first | exact Or.inl rfl | exact Or.inr rfl))) (fun _ _ _ _ _ => (pts_one (pt_val (D_is_ahead.callK (hr.mono (by decide)) rfl (pa_cons (pv 0) (pa_cons (pv 1) (pa_cons (pv 4) (pa_cons (pv 5) pa_nil)))) (pk_cons (pv 2) pk_nil))))) (fun _ _ _ _ _ => (pv 5)))))))), ?_⟩
    refine ⟨_, rfl, p, dx, _, rfl, hp, p, bs, rfl, hR, bs.length, rfl, by omega, ?_⟩
    refine ⟨_, rfl, RgOk.of_le (by decide) (by omega) (by decide) (by omega), fun B hBn => ?_⟩
    have sB := same_upd (o := .lst (rgV 0 (bs.length : Nat))) hBn
    have eB : (upd H B (.lst (rgV 0 (bs.length : Nat)))) B = some (nO (List.range bs.length)) := by
      rw [upd_same]
      unfold rgV nO nv
      rw [show (((bs.length : Nat) : Int) - 0).toNat = bs.length by omega]
      congr 2
      exact List.map_congr_left fun i _ => by rw [Int.zero_add]
    generalize upd H B (.lst (rgV 0 (bs.length : Nat))) = H1 at sB eB ⊢
    refine ⟨_, rfl, B, rfl, ⟨_, .inl (.inl eB)⟩, fun D hD => ?_⟩
    refine lc_objL (fun r => r ≠ D) (fun _ h => h) (accOM (List.range bs.length) fun i => nO (behL (aheadR ds sm bs.bows) bs.length i)) (.inl (.inl eB)) (by rw [List.length_map, List.length_range]; omega) hD rfl (fun i x H2 hx s2 hDD K1 K0 k1 k0 => ?_) fun H2 qs s2 e1 e2 e3 _ => ?_
    · obtain ⟨z, hz, rfl⟩ : ∃ z, (List.range bs.length)[i]? = some z ∧ V.int (z : Nat) = x := by rw [List.getElem?_map] at hx; exact Option.map_eq_some_iff.mp hx
      have zn : z < bs.length := List.mem_range.mp (List.mem_of_getElem? hz)
      refine ⟨rfl, _, rfl, B, rfl, ⟨_, .inl (.inl (s2 _ _ eB))⟩, fun D2 hD2 => ?_⟩
      refine lc_accL (accF (List.range bs.length) (fun j => aheadR ds sm bs.bows z j) fun j => V.int (j : Nat)) (.inl (.inl (s2 _ _ eB))) (by rw [List.length_map, List.length_range]; omega) hD2 rfl (fun j x H3 hx3 s3 _ K1' K0' k1' k0' => ?_) fun H3 s3 e3 => ?_
      · obtain ⟨y, hy, rfl⟩ : ∃ y, (List.range bs.length)[j]? = some y ∧ V.int (y : Nat) = x := by rw [List.getElem?_map] at hx3; exact Option.map_eq_some_iff.mp hx3
        have yn : y < bs.length := List.mem_range.mp (List.mem_of_getElem? hy)
        have s13 := sB.trans (s2.trans s3)
        have hzb : bs[z]? = some bs[z] := List.getElem?_eq_getElem zn
        have hyb : bs[y]? = some bs[y] := List.getElem?_eq_getElem yn
        have ea : aheadR ds sm bs.bows z y = aheadB ds sm bs[z].2 bs[y].2 z y := by
          unfold aheadR Bs.bows
          rw [List.getD_eq_getElem?_getD, List.getD_eq_getElem?_getD, List.getElem?_map, List.getElem?_map, hzb, hyb]
          rfl
        refine ⟨rfl, _, rfl, _, rfl, _, rfl, _, rfl, _, rfl, rfl, rfl, p, a, bs, ds, z, y, _, _, sm, rfl, hR.same s13, s13 _ _ ha, hzb, hyb, _, rfl, ?_⟩
        rw [← ea]
        refine iteB (fun h => ?_) (fun h => ?_)
        · exact ⟨_, rfl, k1' _ _ (Same.refl _) (accF_yes hy h)⟩
        · exact k0' _ (Same.refl _) (accF_no hy h)
      · rw [accF_all (by rw [List.length_map])] at e3
        obtain ⟨ys, hy⟩ := hDD
        exact k1 D2 _ H3 s3 (fun h => by rw [h, hy] at hD2; cases hD2) e3 (accOM_succ (f := fun i => nO (behL (aheadR ds sm bs.bows) bs.length i)) hz)
    · rw [accOM_all (by rw [List.length_map])] at e2
      exact Qk D H2 ⟨qs, e1, e3, by rw [e2, List.map_map]; rfl⟩ (sB.trans s2)
end
end Bw
end
section
set_option linter.all false
set_option maxRecDepth 100000
set_option maxHeartbeats 4000000
/-! Counting by injections; the levels of an order. -/
namespace Bw
theorem nodup_sub : ∀ (l l' : List Nat), l.Nodup → (∀ x ∈ l, x ∈ l') → l.length ≤ l'.length
  | [], _, _, _ => Nat.zero_le _
  | x :: l, l', h, hs => by
    obtain ⟨h1, h2⟩ := List.nodup_cons.mp h
    have hx : x ∈ l' := hs x (List.mem_cons_self ..)
    have := nodup_sub l (l'.erase x) h2 fun y hy => (List.mem_erase_of_ne (fun e => h1 (by rw [← e]; exact hy))).mpr (hs y (List.mem_cons_of_mem _ hy))
    rw [List.length_erase_of_mem hx] at this
    have hp : 0 < l'.length := List.length_pos_of_mem hx
    rw [List.length_cons]
    omega
theorem nodup_map {f : Nat → Nat} : ∀ {l : List Nat}, l.Nodup → (∀ x ∈ l, ∀ y ∈ l, f x = f y → x = y) → (l.map f).Nodup
  | [], _, _ => List.nodup_nil
  | x :: l, h, hi => by
    obtain ⟨h1, h2⟩ := List.nodup_cons.mp h
    rw [List.map_cons, List.nodup_cons]
    refine ⟨fun hm => ?_, nodup_map h2 fun a ha b hb => hi a (List.mem_cons_of_mem _ ha) b (List.mem_cons_of_mem _ hb)⟩
    obtain ⟨y, hy, e⟩ := List.mem_map.mp hm
    exact h1 (by rw [hi x (List.mem_cons_self ..) y (List.mem_cons_of_mem _ hy) e.symm]; exact hy)
theorem listOf_nodup (S : Nat → Bool) (n : Nat) : (listOf S n).Nodup := (listOf_sorted S n).imp fun h => by omega
theorem listOf_len (S : Nat → Bool) (n : Nat) : (listOf S n).length = cnt S n := cnt_filter S n
theorem cnt_inj {S T : Nat → Bool} {n m : Nat} (f : Nat → Nat) (h : ∀ i, i < n → S i = true → f i < m ∧ T (f i) = true) (inj : ∀ i j, i < n → j < n → S i = true → S j = true → f i = f j → i = j) : cnt S n ≤ cnt T m := by
  rw [← listOf_len, ← listOf_len, ← List.length_map (f := f)]
  refine nodup_sub _ _ (nodup_map (listOf_nodup S n) fun x hx y hy e => ?_) fun x hx => ?_
  · obtain ⟨a1, a2⟩ := listOf_mem.mp hx
    obtain ⟨b1, b2⟩ := listOf_mem.mp hy
    exact inj x y a1 b1 a2 b2 e
  · obtain ⟨y, hy, rfl⟩ := List.mem_map.mp hx
    obtain ⟨a1, a2⟩ := listOf_mem.mp hy
    exact listOf_mem.mpr (h y a1 a2)
theorem cnt_list {xs : List Nat} {n : Nat} (hn : xs.Nodup) (hl : ∀ x ∈ xs, x < n) : cnt (fun i => xs.contains i) n = xs.length := by
  rw [← listOf_len]
  refine Nat.le_antisymm (nodup_sub _ _ (listOf_nodup _ _) fun x hx => by simpa using (listOf_mem.mp hx).2) (nodup_sub _ _ hn fun x hx => listOf_mem.mpr ⟨hl x hx, by simpa using hx⟩)
/-- the greatest clique, by a list and a bound -/
theorem most_of {G : Nat → Nat → Bool} {n : Nat} {xs : List Nat} (hn : xs.Nodup) (hl : ∀ x ∈ xs, x < n) (hc : ∀ x ∈ xs, ∀ y ∈ xs, x ≠ y → G x y = true)
    (hb : ∀ S : Nat → Bool, (∀ i j, i < n → j < n → S i = true → S j = true → i ≠ j → G i j = true) → cnt S n ≤ xs.length) : IsMost G n 1 xs.length := by
  refine ⟨⟨fun i => xs.contains i, ⟨fun _ => 0, fun _ _ _ => Nat.zero_lt_one, fun i j _ _ hi hj ne _ => hc i (by simpa using hi) j (by simpa using hj) ne⟩, cnt_list hn hl⟩, fun S ⟨f, f1, f2⟩ => hb S fun i j hi hj si sj ne => f2 i j hi hj si sj ne ?_⟩
  have := f1 i hi si
  have := f1 j hj sj
  omega
/-- strictly ordered -/
structure Strict (A : Nat → Nat → Bool) (n : Nat) : Prop where
  irr : ∀ i, i < n → A i i = false
  tr : ∀ i j k, i < n → j < n → k < n → A i j = true → A j k = true → A i k = true
theorem Strict.asy {A : Nat → Nat → Bool} {n : Nat} (h : Strict A n) {i j : Nat} (hi : i < n) (hj : j < n) (a : A i j = true) : A j i = false := by
  cases e : A j i with
  | false => rfl
  | true => rw [← h.irr i hi, h.tr i j i hi hj hi a e]
/-- a least one of those that are out -/
theorem least_out {A : Nat → Nat → Bool} {n : Nat} (h : Strict A n) (S : Nat → Bool) : ∀ (m j : Nat), j < n → S j = false → cnt (fun i => A i j) n ≤ m → ∃ j', j' < n ∧ S j' = false ∧ ∀ i, i < n → A i j' = true → S i = true
  | 0, j, hj, hs, hm => ⟨j, hj, hs, fun i hi a => by
      have := none_of_cnt (S := fun i => A i j) (n := n) (by omega) i hi
      rw [a] at this
      cases this⟩
  | m + 1, j, hj, hs, hm => by
    by_cases hall : ∀ i, i < n → A i j = true → S i = true
    · exact ⟨j, hj, hs, hall⟩
    · have : ∃ i, i < n ∧ A i j = true ∧ S i = false := by
        refine Classical.byContradiction fun hc => hall fun i hi a => ?_
        cases e : S i with
        | true => rfl
        | false => exact absurd ⟨i, hi, a, e⟩ hc
      obtain ⟨i, hi, a, si⟩ := this
      refine least_out h S m i hi si ?_
      have h1 : cnt (fun x => A x i || decide (x = i)) n ≤ cnt (fun x => A x j) n := cnt_mono fun x hx e => by
        rcases Bool.or_eq_true_iff.mp e with e | e
        · exact h.tr x i j hx hi hj e a
        · rw [of_decide_eq_true e]; exact a
      have e := cnt_add (S := fun x => A x i) (a := i) (h.irr i hi) (n := n)
      rw [if_pos hi] at e
      have e2 : cnt (fun x => A x i || decide (x = i)) n = cnt (fun x => A x i) n + 1 := e
      omega
/-- what levels are -/
structure Levels (A : Nat → Nat → Bool) (n : Nat) (lv : Nat → Nat) : Prop where
  up : ∀ i j, i < n → j < n → A i j = true → lv i < lv j
  by_ : ∀ j, j < n → lv j = 0 ∨ ∃ i, i < n ∧ A i j = true ∧ lv i + 1 = lv j
theorem chain_bound {A : Nat → Nat → Bool} {n M : Nat} {lv : Nat → Nat} (h : ∀ i j, i < n → j < n → A i j = true → lv i < lv j) (hM : ∀ i, i < n → lv i < M) {S : Nat → Bool}
    (hS : ∀ i j, i < n → j < n → S i = true → S j = true → i ≠ j → (A i j || A j i) = true) : cnt S n ≤ M := by
  have := cnt_inj (S := S) (T := fun _ => true) (n := n) (m := M) lv (fun i hi _ => ⟨hM i hi, rfl⟩) fun i j hi hj si sj e => by
    refine Classical.byContradiction fun ne => ?_
    rcases Bool.or_eq_true_iff.mp (hS i j hi hj si sj ne) with a | a
    · have := h i j hi hj a; omega
    · have := h j i hj hi a; omega
  rwa [cnt_all fun _ _ => rfl] at this
end Bw
end
section
set_option Elab.async false
set_option linter.all false
set_option maxRecDepth 100000
set_option maxHeartbeats 4000000
/-! A dict from places to values, as a function. -/
namespace Bw
open PySem PySem.Spec PyProof.Rows L2
/-- a dict from places below n -/
structure DAt (H : Hp) (d : Addr) (n : Nat) (g : Nat → Option V) : Prop where
  ex : ∃ kvs : List (Key × V), H d = some (.dK kvs) ∧ kvs.length = cnt (fun j => (g j).isSome) n ∧ ∀ j : Nat, valV kvs (.inl (j : Int)) = g j
  dom : ∀ j, (g j).isSome = true → j < n
theorem DAt.nil {H : Hp} {d : Addr} {n : Nat} (h : H d = some (.dK [])) : DAt H d n fun _ => none :=
  ⟨⟨[], h, (cnt_none (fun _ _ => rfl)).symm, fun _ => rfl⟩, fun _ h => by cases h⟩
theorem DAt.same {H H' : Hp} {d : Addr} {n : Nat} {g : Nat → Option V} (h : DAt H d n g) (e : ∀ o, H d = some o → H' d = some o) : DAt H' d n g :=
  ⟨let ⟨kvs, h1, h2⟩ := h.ex; ⟨kvs, e _ h1, h2⟩, h.dom⟩
theorem DAt.get {H : Hp} {d : Addr} {n : Nat} {g : Nat → Option V} (h : DAt H d n g) (j : Nat) : DGet H d (.int (j : Int)) (g j) := by
  obtain ⟨kvs, h1, _, h3⟩ := h.ex
  rw [← h3 j]
  exact DGet.k (k := .inl (j : Int)) h1
theorem length_putK_has {κ : Type} [DecidableEq κ] (kvs : List (κ × V)) (k : κ) (v : V) : (putK kvs k v).length = if (valV kvs k).isSome = true then kvs.length else kvs.length + 1 := by
  unfold putK
  rw [valV_any]
  split
  · rw [List.length_map]
  · rw [List.length_append]; rfl
theorem cnt_put {g : Nat → Option V} {n j : Nat} (hj : j < n) (v : V) : cnt (fun i => ((if i = j then some v else g i) : Option V).isSome) n = if (g j).isSome = true then cnt (fun i => (g i).isSome) n else cnt (fun i => (g i).isSome) n + 1 := by
  by_cases h : (g j).isSome = true
  · rw [if_pos h]
    refine cnt_congr fun i _ => ?_
    by_cases e : i = j
    · rw [if_pos e, e, h]; rfl
    · rw [if_neg e]
  · rw [if_neg h]
    have e := cnt_add (S := fun i => (g i).isSome) (a := j) (by simpa using h) (n := n)
    rw [if_pos hj] at e
    rw [← e]
    refine cnt_congr fun i _ => ?_
    by_cases e : i = j
    · rw [if_pos e]; simp [e]
    · rw [if_neg e]; simp [e]
theorem DAt.put {H : Hp} {d : Addr} {n : Nat} {g : Nat → Option V} (h : DAt H d n g) {j : Nat} (hj : j < n) (hn : n ≤ sizeLine) (v : V) (hs : cnt (fun i => (g i).isSome) n < sizeLine) :
    ∃ o, DPut H d (.int (j : Int)) v (upd H d o) ∧ DAt (upd H d o) d n fun i => if i = j then some v else g i := by
  obtain ⟨kvs, h1, h2, h3⟩ := h.ex
  refine ⟨.dK (putK kvs (.inl (j : Int)) v), .inl ⟨kvs, .inl (j : Int), h1, rfl, by rw [h2]; exact hs, rfl⟩, ⟨_, upd_same, ?_, fun i => ?_⟩, fun i hi => ?_⟩
  · rw [length_putK_has, cnt_put hj, h3, h2]
  · rw [valV_put, h3]
    by_cases e : i = j
    · rw [if_pos (by rw [e]), if_pos e]
    · rw [if_neg (fun z => e (by injection z with z; omega)), if_neg e]
  · by_cases e : i = j
    · rw [e]; exact hj
    · exact h.dom i (by simpa [e] using hi)
theorem DAt.len {H : Hp} {d : Addr} {n : Nat} {g : Nat → Option V} (h : DAt H d n g) : ∃ kvs : List (Key × V), H d = some (.dK kvs) ∧ kvs.length = cnt (fun j => (g j).isSome) n := let ⟨kvs, h1, h2, _⟩ := h.ex; ⟨kvs, h1, h2⟩
/-- levels found so far -/
structure LvOk (A : Nat → Nat → Bool) (n : Nat) (S : Nat → Bool) (lv : Nat → Nat) : Prop where
  dom : ∀ j, S j = true → j < n
  cl : ∀ i j, i < n → S j = true → A i j = true → S i = true ∧ lv i < lv j
  by_ : ∀ j, S j = true → lv j = 0 ∨ ∃ i, i < n ∧ A i j = true ∧ lv i + 1 = lv j
theorem LvOk.nil (A : Nat → Nat → Bool) (n : Nat) : LvOk A n (fun _ => false) fun _ => 0 := ⟨fun _ h => Bool.noConfusion h, fun _ _ _ h => Bool.noConfusion h, fun _ h => Bool.noConfusion h⟩
theorem LvOk.add {A : Nat → Nat → Bool} {n : Nat} {S : Nat → Bool} {lv : Nat → Nat} (h : LvOk A n S lv) {j m : Nat} (hj : j < n) (hs : S j = false) (ha : ∀ i, i < n → A i j = true → S i = true ∧ lv i < m) (hm : m = 0 ∨ ∃ i, i < n ∧ A i j = true ∧ lv i + 1 = m) :
    LvOk A n (fun x => S x || decide (x = j)) fun x => if x = j then m else lv x := by
  have ne : ∀ x, S x = true → x ≠ j := fun x hx e => by rw [e, hs] at hx; cases hx
  refine ⟨fun x hx => ?_, fun i x hi hx a => ?_, fun x hx => ?_⟩
  · rcases Bool.or_eq_true_iff.mp hx with h' | h'
    · exact h.dom x h'
    · rw [of_decide_eq_true h']; exact hj
  · rcases Bool.or_eq_true_iff.mp hx with h' | h'
    · obtain ⟨s, l⟩ := h.cl i x hi h' a
      refine ⟨by show (S i || _) = true; rw [s]; rfl, ?_⟩
      rw [if_neg (ne i s), if_neg (ne x h')]; exact l
    · have := of_decide_eq_true h'
      subst this
      obtain ⟨s, l⟩ := ha i hi a
      refine ⟨by show (S i || _) = true; rw [s]; rfl, ?_⟩
      rw [if_neg (ne i s), if_pos rfl]; exact l
  · rcases Bool.or_eq_true_iff.mp hx with h' | h'
    · rw [if_neg (ne x h')]
      rcases h.by_ x h' with z | ⟨i, hi, a, e⟩
      · exact .inl z
      · exact .inr ⟨i, hi, a, by rw [if_neg (ne i (h.cl i x hi h' a).1)]; exact e⟩
    · have := of_decide_eq_true h'
      subst this
      rw [if_pos rfl]
      rcases hm with z | ⟨i, hi, a, e⟩
      · exact .inl z
      · exact .inr ⟨i, hi, a, by rw [if_neg (ne i (ha i hi a).1)]; exact e⟩
theorem LvOk.all {A : Nat → Nat → Bool} {n : Nat} {S : Nat → Bool} {lv : Nat → Nat} (h : LvOk A n S lv) (hs : ∀ i, i < n → S i = true) : Levels A n lv :=
  ⟨fun i j hi hj a => (h.cl i j hi (hs j hj) a).2, fun j hj => h.by_ j (hs j hj)⟩
/-- the greatest of the levels behind which one stands, and one more -/
theorem max_lv {A : Nat → Nat → Bool} {n : Nat} {lv : Nat → Nat} {j : Nat} {m : Int} (hm : m ∈ ((List.range n).filter fun i => A i j).map fun i => (lv i : Int) + 1) (hx : ∀ y ∈ ((List.range n).filter fun i => A i j).map fun i => (lv i : Int) + 1, y ≤ m) :
    ∃ m' : Nat, m = m' ∧ (∀ i, i < n → A i j = true → lv i < m') ∧ ∃ i, i < n ∧ A i j = true ∧ lv i + 1 = m' := by
  obtain ⟨i, hi, rfl⟩ := List.mem_map.mp hm
  obtain ⟨h1, h2⟩ := List.mem_filter.mp hi
  refine ⟨lv i + 1, by push_cast; rfl, fun x hx' a => ?_, i, List.mem_range.mp h1, h2, rfl⟩
  have := hx _ (List.mem_map.mpr ⟨x, List.mem_filter.mpr ⟨List.mem_range.mpr hx', a⟩, rfl⟩)
  omega
end Bw
end
section
set_option Elab.async false
set_option linter.all false
set_option maxRecDepth 100000
set_option maxHeartbeats 4000000
namespace Bw
open PySem PySem.Spec PyProof.Rows L2
section
variable {w : World} {K : PySem.W.Frag} {mg : Str → Option Value} {base : Heap}
/-- what is known of the levels, as a dict's values -/
def lvV (S : Nat → Bool) (lv : Nat → Nat) (j : Nat) : Option V := if S j = true then some (.int (lv j : Nat)) else none
theorem lvV_some {S : Nat → Bool} {lv : Nat → Nat} {j : Nat} : (lvV S lv j).isSome = S j := by unfold lvV; cases S j <;> rfl
theorem lvV_put {S : Nat → Bool} {lv : Nat → Nat} {j m : Nat} : (fun i => if i = j then some (V.int (m : Nat)) else lvV S lv i) = lvV (fun x => S x || decide (x = j)) (fun x => if x = j then m else lv x) := by
  funext i
  unfold lvV
  by_cases e : i = j
  · simp [e]
  · simp [e]
def spLevels (K : PySem.W.Frag) : Sp := fun vs H Q _ => ∃ (a : Addr) (n : Nat) (A : Nat → Nat → Bool), vs = [.ref a] ∧ LsAt H a ((List.range n).map (behL A n)) ∧ n ≤ 1000 ∧ Strict A n ∧
  ∀ t H' lv, Levels A n lv → H' t = some (nO ((List.range n).map lv)) → Same H H' → Q (.ref t) H'
theorem behL_mem {A : Nat → Nat → Bool} {n i j : Nat} : j ∈ behL A n i ↔ j < n ∧ A i j = true := by
  unfold behL
  rw [List.mem_filter, List.mem_range]
theorem sc_levels_known : FnScope ["behinds", "j", "aheads", "found", "some", "i"] ["behinds"] (defScope s_levels_known) := ⟨rfl, rfl, rfl, by decide +kernel, rfl, by decide +kernel, by decide +kernel⟩
theorem ok_levels_known (c : Cy w K mg base) : Dn PG w K mg base "levels_known" 1 ["behinds"] (spLevels K) := by
  obtain ⟨fd, F⟩ := c.fd_levels_known
  refine ⟨walkD F sc_levels_known (fun vs H Q E h => ?_) (fun cdv A outer s H vs Q E hr h => ?_) fun _ _ _ _ _ _ us hl => match us, hl with | [_], _ => rfl, c.m_levels_known, F.kp⟩
  · obtain ⟨a, _, _, rfl, _⟩ := h
    rfl
  · obtain ⟨a, n, A, rfl, ha, hn, hA, Qk⟩ := h
    have hu := hu_of hr
    have b1000 : (1000 : Nat) < sizeLine := by decide
    obtain ⟨ps, a1, a2, a3⟩ := ha
    have lps : ps.length = n := by simpa using congrArg List.length a3
    refine ⟨_, (pss_cons (ps_setLc (i := 2) rfl sc_levels_known.nd rfl rfl (sw_true rfl rfl rfl (by decide +kernel)) (pi_range1 (by rfl) c.f_range (pa_cons (pe_callB (call_len_seq_k (K0 := K) (by rfl)) (by rfl) c.f_len PySem.boot_len (pa_cons (pv 0) pa_nil)) pa_nil)) (blkOk_by (own := [("j", 1)]) (by show blkC ["behinds", "j", "aheads", "found", "some", "i"] (defScope s_levels_known) _ _ = true; decide +kernel)) (fun _ _ _ _ _ => (pg_name (i := 1) sc_levels_known.nd rfl (by first | exact Or.inl rfl | exact Or.inr rfl))) (fun _ _ _ _ _ => pts_nil) (fun _ _ _ _ _ => (pe_lc rfl sc_levels_known.nd (pi_range1 (by rfl) c.f_range (pa_cons (pe_callB (call_len_seq_k (K0 := K) (by rfl)) (by rfl) c.f_len PySem.boot_len (pa_cons (pv 0) pa_nil)) pa_nil)) (blkOk_by (own := [("i", 5)]) (by show blkC ["behinds", "j", "aheads", "found", "some", "i"] (relS _ (defScope s_levels_known)) _ _ = true; decide +kernel)) (fun _ _ _ _ _ => (pg_name (i := 5) sc_levels_known.nd rfl (by first | exact Or.inl rfl | exact Or.inr rfl))) (fun _ _ _ _ _ => (pts_one (pt_cmpR (op_in_seq_k (K0 := K) (by rfl)) (pv 1) (pe_ix (ix_list_k (K0 := K) (by rfl)) (pv 0) (pv 5) (fun _ _ => rfl)) (by rfl)))) (fun _ _ _ _ _ => (pv 5)))))
      (pss_cons (ps_set (i := 3) sc_levels_known.nd rfl (by first | exact Or.inl rfl | exact Or.inr rfl) pe_dnewK)
      (pss_cons (ps_while PassesOwn.never (pt_cmpR op_lt (pe_callB call_lenD (by rfl) c.f_len PySem.boot_len (pa_cons (pv 3) pa_nil)) (pe_callB (call_len_seq_k (K0 := K) (by rfl)) (by rfl) c.f_len PySem.boot_len (pa_cons (pv 0) pa_nil)) (nomark _)) (pss_one (ps_for PassesOwn.never rfl (pi_enum_k (K0 := K) (by rfl) (by rfl) c.f_enumerate (pa_cons (pv 2) pa_nil)) (pg_tup_k (K0 := K) (n := 2) (by rfl) (by rfl) (pgs_cons (pg_name (i := 1) sc_levels_known.nd rfl (by first | exact Or.inl rfl | exact Or.inr rfl)) (pgs_cons (pg_name (i := 4) sc_levels_known.nd rfl (by first | exact Or.inl rfl | exact Or.inr rfl)) pgs_nil))) (pss_one (ps_if (PW.pt (pw_and (pt_cmp (pc_dnotin hu (pv 1) (pv 3))) (pw_and1 (pt_val (pe_callB (cr_all_k (K0 := K) (by rfl) rfl) (by rfl) c.f_all (by decide +kernel) (pa_cons (pe_lc rfl sc_levels_known.nd (pi_list_k (K0 := K) (by rfl) (pv 4)) (blkOk_by (own := [("i", 5)]) (by show blkC ["behinds", "j", "aheads", "found", "some", "i"] (defScope s_levels_known) _ _ = true; decide +kernel)) (fun _ _ _ _ _ => (pg_name (i := 5) sc_levels_known.nd rfl (by first | exact Or.inl rfl | exact Or.inr rfl))) (fun _ _ _ _ _ => pts_nil) (fun _ _ _ _ _ => (pe_cmp (pc_din hu (pv 5) (pv 3)) rfl))) pa_nil)))))) (pss_one (ps_dput hu (pv 3) (pv 1) (pe_callBK (cr_maxD_k (K0 := K) (by rfl) rfl (hu64 hr)) (by rfl) c.f_max (by decide +kernel) (pa_cons (pe_lc rfl sc_levels_known.nd (pi_list_k (K0 := K) (by rfl) (pv 4)) (blkOk_by (own := [("i", 5)]) (by show blkC ["behinds", "j", "aheads", "found", "some", "i"] (defScope s_levels_known) _ _ = true; decide +kernel)) (fun _ _ _ _ _ => (pg_name (i := 5) sc_levels_known.nd rfl (by first | exact Or.inl rfl | exact Or.inr rfl))) (fun _ _ _ _ _ => pts_nil) (fun _ _ _ _ _ => (pe_op op_add (pe_dget hu (pv 3) (pv 5) (fun _ _ => rfl)) pe_int))) pa_nil) (pk_cons pe_int pk_nil)) rfl)) pss_nil)))))
      (pss_one (ps_ret (pe_lc rfl sc_levels_known.nd (pi_range1 (by rfl) c.f_range (pa_cons (pe_callB (call_len_seq_k (K0 := K) (by rfl)) (by rfl) c.f_len PySem.boot_len (pa_cons (pv 0) pa_nil)) pa_nil)) (blkOk_by (own := [("j", 1)]) (by show blkC ["behinds", "j", "aheads", "found", "some", "i"] (defScope s_levels_known) _ _ = true; decide +kernel)) (fun _ _ _ _ _ => (pg_name (i := 1) sc_levels_known.nd rfl (by first | exact Or.inl rfl | exact Or.inr rfl))) (fun _ _ _ _ _ => pts_nil) (fun _ _ _ _ _ => (pe_dget hu (pv 3) (pv 1) (fun _ _ => rfl))))))))), ?_⟩
    refine ⟨_, rfl, a, _, rfl, .inl (.inl (.inl a1)), ((n : Nat) : Int), by rw [List.length_map, lps], by omega, by omega, fun D hD => ?_⟩
    rw [Int.toNat_natCast]
    refine lc_objR (lo := 0) (n := n) (fun r => r ≠ D) (fun _ h => h) (accOM (List.range n) fun j => nO ((List.range n).filter fun i => A i j)) (by omega) hD rfl (fun j H2 hj s2 hDD K1 K0 k1 k0 => ?_) fun H2 qs s2 e1 e2 e3 _ => ?_
    · refine ⟨rfl, _, rfl, a, _, rfl, .inl (.inl (.inl (s2 _ _ a1))), ((n : Nat) : Int), by rw [List.length_map, lps], by omega, by omega, fun D2 hD2 => ?_⟩
      rw [Int.toNat_natCast]
      refine lc_accR (lo := 0) (n := n) (accF (List.range n) (fun i => A i j) fun i => V.int (i : Nat)) (by omega) hD2 rfl (fun i H3 hi s3 _ K1' K0' k1' k0' => ?_) fun H3 s3 e3 => ?_
      · obtain ⟨b, hb⟩ : ∃ b, ps[i]? = some b := ⟨_, List.getElem?_eq_getElem (by omega)⟩
        have hb2 : b.2 = nO (behL A n i) := by
          have := congrArg (·[i]?) a3
          simp only [List.getElem?_map, hb, rangeget hi] at this
          simpa using this
        have hvb : ps.vs[i]? = some (.ref b.1) := by rw [List.getElem?_map, hb]; rfl
        have s23 := s2.trans s3
        refine ⟨rfl, _, rfl, _, rfl, _, rfl, a, _, _, _, rfl, rfl, .inl (.inl (s23 _ _ a1)), atI_z hvb, b.1, nv (behL A n i), rfl, .inl (.inl (.inl (s23 _ _ ((a2 b (List.mem_of_getElem? hb)).trans (congrArg some hb2))))), rfl, flat_nv _, _, rfl, ?_⟩
        have ej : inV (V.int (0 + (j : Int))) (nv (behL A n i)) = A i j := by
          rw [Int.zero_add, inV_nv, Bool.eq_iff_iff, List.contains_iff_mem, behL_mem]
          exact ⟨fun h => h.2, fun h => ⟨hj, h⟩⟩
        show if inV (V.int (0 + (j : Int))) (nv (behL A n i)) = true then _ else _
        rw [ej]
        refine iteB (fun h => ?_) (fun h => ?_)
        · refine ⟨_, rfl, k1' _ _ (Same.refl _) ?_⟩
          rw [Int.zero_add]
          exact accF_yes (rangeget hi) h
        · exact k0' _ (Same.refl _) (accF_no (rangeget hi) h)
      · rw [accF_all (List.length_range).symm] at e3
        obtain ⟨ys, hy⟩ := hDD
        exact k1 D2 _ H3 s3 (fun h => by rw [h, hy] at hD2; cases hD2) e3 (accOM_succ (f := fun j => nO ((List.range n).filter fun i => A i j)) (rangeget hj))
    · rw [accOM_all (List.length_range).symm] at e2
      have lq : qs.length = n := by simpa using congrArg List.length e2
      refine fun F' hF' => ?_
      have sF := same_upd (o := .dK []) hF'
      have dF : DAt (upd H2 F' (.dK [])) F' n (lvV (fun _ => false) fun _ => 0) := DAt.nil upd_same
      have s3 := s2.trans sF
      have f1 := sF _ _ e1
      have f3 := e3.same sF
      generalize upd H2 F' (.dK []) = H3 at sF dF s3 f1 f3 ⊢
      let Iv : (Nat → Bool) → (Nat → Nat) → L2.St → Hp → Prop := fun S lv σ H' => (∃ x1 x4 x5, σ = [some (.ref a), x1, some (.ref D), some (.ref F'), x4, x5]) ∧ But F' H3 H' ∧ LvOk A n S lv ∧ DAt H' F' n (lvV S lv)
      refine ⟨fun m σ H' => ∃ S lv, m = n - cnt S n ∧ Iv S lv σ H', ⟨_, _, _, rfl, ⟨_, _, _, rfl⟩, But.refl _ _, LvOk.nil A n, dF⟩, ?_⟩
      rintro m σ H' ⟨S, lv, rfl, ⟨x1, x4, x5, rfl⟩, bt, ok, dd⟩
      have keep : ∀ {H' : Hp} {b : Addr} {o : HO}, But F' H3 H' → H2 b = some o → H' b = some o := fun bt hb => bt _ _ (sF _ _ hb) (ne_of_none hb hF')
      obtain ⟨kvs, k1, k2⟩ := dd.len
      replace k2 : kvs.length = cnt S n := k2.trans (cnt_congr fun j _ => lvV_some)
      refine ⟨_, rfl, F', kvs, rfl, k1, _, rfl, a, _, rfl, .inl (.inl (.inl (keep bt (s2 _ _ a1)))), _, _, rfl, rfl, _, rfl, ?_⟩
      rw [List.length_map, lps, k2]
      refine iteP (fun hlt => ?_) (fun hlt => ?_)
      · refine ⟨fun σ' H'' => ∃ m', m' < n - cnt S n ∧ ∃ S lv, m' = n - cnt S n ∧ Iv S lv σ' H'', fun σ' H'' h => h, ?_⟩
        refine ⟨_, rfl, D, qs.vs, rfl, .inl (.inl (bt _ _ f1 (ne_of_none e1 hF'))), ?_⟩
        refine for_it (walk_enum (K := K) (a := D) (xs := qs.vs)) (fun t σ' H'' => ∃ S' lv', Iv S' lv' σ' H'' ∧ (∀ j, S j = true → S' j = true) ∧ ∀ j, j < t → j < n → (∀ i, i < n → A i j = true → S i = true) → S' j = true) ?_ ?_ ?_ ?_
        · exact ⟨S, lv, ⟨⟨_, _, _, rfl⟩, bt, ok, dd⟩, fun _ h => h, fun _ h => absurd h (Nat.not_lt_zero _)⟩
        · rintro t σ' H'' _ ⟨_, _, ⟨_, bt, _⟩, _⟩
          exact .inl (.inl (bt _ _ f1 (ne_of_none e1 hF')))
        · rintro t x σ' H'' H4 ht ⟨S', lv', ⟨⟨x1, x4, x5, rfl⟩, bt', ok', dd'⟩, q1, q2⟩ ⟨T, y1, y2, rfl, hT, rfl, g1, g2⟩
          have htn : t < n := by rw [List.length_map, lq] at ht; exact ht
          obtain rfl : V.int (t : Nat) = y1 := by injection g1
          have sT : Same H'' (upd H'' T (.tup [V.int (t : Nat), y2])) := same_upd hT
          have bt4 := bt'.trans (But.of_same sT)
          have dd4 := dd'.same (sT _)
          have eT : (upd H'' T (.tup [V.int (t : Nat), y2])) T = some (.tup [V.int (t : Nat), y2]) := upd_same
          generalize upd H'' T (.tup [V.int (t : Nat), y2]) = H4 at sT bt4 dd4 eT ⊢
          obtain ⟨b, hb⟩ : ∃ b, qs[t]? = some b := ⟨_, List.getElem?_eq_getElem (by omega)⟩
          have hb2 : b.2 = nO ((List.range n).filter fun i => A i t) := by
            have := congrArg (·[t]?) e2
            simp only [List.getElem?_map, hb, rangeget htn] at this
            simpa using this
          have hvb : qs.vs[t]? = some (.ref b.1) := by rw [List.getElem?_map, hb]; rfl
          obtain rfl : V.ref b.1 = y2 := by have g3 : qs.vs[t]? = some y2 := g2; rw [hvb] at g3; injection g3
          have bD : b.1 ≠ F' := ne_of_none (e3 b (List.mem_of_getElem? hb)) hF'
          have b4 : H4 b.1 = some (nO ((List.range n).filter fun i => A i t)) := by rw [← hb2]; exact bt4 _ _ (f3 b (List.mem_of_getElem? hb)) bD
          generalize hL : ((List.range n).filter fun i => A i t) = L at b4
          have mL : ∀ i, i ∈ L ↔ i < n ∧ A i t = true := fun i => by rw [← hL, List.mem_filter, List.mem_range]
          have lL : L.length ≤ n := by rw [← hL]; exact Nat.le_trans (List.length_filter_le _ _) (by rw [List.length_range]; exact Nat.le_refl n)
          refine ⟨T, _, rfl, .inl (.inl eT), rfl, _, _, rfl, _, _, rfl, rfl, ?_⟩
          refine ⟨_, rfl, _, rfl, F', _, rfl, dd4.get t, ?_⟩
          refine ⟨_, rfl, ?_⟩
          show if (!(lvV S' lv' t).isSome) = true then _ else _
          rw [lvV_some]
          refine iteB (fun hs => ?_) (fun hs => ?_)
          · replace hs : S' t = false := by simpa using hs
            refine ⟨_, rfl, b.1, rfl, ⟨nv L, .inl (.inl b4)⟩, fun D2 hD2 => ?_⟩
            refine lc_accL (accM L fun i => V.bl (S' i)) (.inl (.inl b4)) (by rw [List.length_map]; omega) hD2 rfl (fun j x H5 hx5 s5 _ K1 K0 k1 k0 => ?_) fun H5 s5 e5 => ?_
            · obtain ⟨z, hz, rfl⟩ : ∃ z, L[j]? = some z ∧ V.int (z : Nat) = x := by rw [List.getElem?_map] at hx5; exact Option.map_eq_some_iff.mp hx5
              refine ⟨rfl, _, rfl, _, rfl, F', _, rfl, (dd4.same (s5 _)).get z, ?_⟩
              rw [lvV_some]
              exact k1 _ _ (Same.refl _) (accM_succ (f := fun i => V.bl (S' i)) hz)
            · rw [accM_all (by rw [List.length_map]), bl_all] at e5
              refine ⟨D2, _, rfl, .inl (.inl e5), _, rfl, ?_⟩
              rw [all_id]
              have bt5 := bt4.trans (But.of_same s5)
              have dd5 := dd4.same (s5 _)
              refine iteB (fun ha => ?_) (fun ha => ?_)
              · replace ha : ∀ i, i ∈ L → S' i = true := fun i hi => List.all_eq_true.mp ha i hi
                refine ⟨_, rfl, b.1, rfl, ⟨nv L, .inl (.inl (s5 _ _ b4))⟩, fun D3 hD3 => ?_⟩
                refine lc_accL (accM L fun i => V.int ((lv' i : Int) + 1)) (.inl (.inl (s5 _ _ b4))) (by rw [List.length_map]; omega) hD3 rfl (fun j x H6 hx6 s6 _ K1 K0 k1 k0 => ?_) fun H6 s6 e6 => ?_
                · obtain ⟨z, hz, rfl⟩ : ∃ z, L[j]? = some z ∧ V.int (z : Nat) = x := by rw [List.getElem?_map] at hx6; exact Option.map_eq_some_iff.mp hx6
                  refine ⟨rfl, _, rfl, _, rfl, F', V.int (lv' z : Nat), rfl, ?_, _, _, rfl, rfl, k1 _ _ (Same.refl _) (accM_succ (f := fun i => V.int ((lv' i : Int) + 1)) hz)⟩
                  have := (dd5.same (s6 _)).get z
                  unfold lvV at this
                  rw [if_pos (ha z (List.mem_of_getElem? hz))] at this
                  exact this
                · rw [accM_all (by rw [List.length_map])] at e6
                  have bt6 := bt5.trans (But.of_same s6)
                  have dd6 := dd5.same (s6 _)
                  have fin : ∀ m : Nat, (∀ i, i < n → A i t = true → S' i = true ∧ lv' i < m) → (m = 0 ∨ ∃ i, i < n ∧ A i t = true ∧ lv' i + 1 = m) → ∃ o, DPut H6 F' (.int (t : Nat)) (.int (m : Nat)) (upd H6 F' o) ∧
                      ∃ S'' lv'', Iv S'' lv'' (([some (V.ref a), x1, some (V.ref D), some (V.ref F'), x4, x5].set 1 (some (V.int (t : Nat)))).set 4 (some (V.ref b.1))) (upd H6 F' o) ∧ (∀ j, S j = true → S'' j = true) ∧ ∀ j, j < t + 1 → j < n → (∀ i, i < n → A i j = true → S i = true) → S'' j = true := fun m m1 m2 => by
                    have hc : cnt (fun i => (lvV S' lv' i).isSome) n ≤ n := cnt_le _ n
                    obtain ⟨o, o1, o2⟩ := dd6.put htn (by omega) (V.int (m : Nat)) (by omega)
                    rw [lvV_put] at o2
                    refine ⟨o, o1, _, _, ⟨⟨_, _, _, rfl⟩, bt6.trans (But.upd _ _ _), ok'.add htn hs m1 m2, o2⟩, fun j hj => ?_, fun j hj1 hj2 hj3 => ?_⟩
                    · show (S' j || _) = true
                      rw [q1 j hj]; rfl
                    · show (S' j || decide (j = t)) = true
                      by_cases e : j = t
                      · rw [decide_eq_true e, Bool.or_true]
                      · rw [q2 j (by omega) hj2 hj3]; rfl
                  refine ⟨D3, L.map fun i => (lv' i : Int) + 1, 0, rfl, rfl, .inl (.inl (by rw [e6, List.map_map]; rfl)), fun e0 => ?_, fun m hm hx => ?_⟩
                  · have eL : L = [] := List.map_eq_nil_iff.mp e0
                    obtain ⟨o, o1, o2⟩ := fin 0 (fun i hi a => by have := (mL i).mpr ⟨hi, a⟩; rw [eL] at this; cases this) (.inl rfl)
                    exact ⟨_, rfl, _, rfl, F', _, rfl, o1, o2⟩
                  · rw [← hL] at hm hx
                    obtain ⟨m', rfl, m1, m2⟩ := max_lv hm hx
                    obtain ⟨o, o1, o2⟩ := fin m' (fun i hi a => ⟨ha i ((mL i).mpr ⟨hi, a⟩), m1 i hi a⟩) (.inr m2)
                    exact ⟨_, rfl, _, rfl, F', _, rfl, o1, o2⟩
              · refine ⟨S', lv', ⟨⟨_, _, _, rfl⟩, bt5, ok', dd5⟩, q1, fun j hj1 hj2 hj3 => ?_⟩
                by_cases e : j = t
                · subst e
                  rw [List.all_eq_false] at ha
                  obtain ⟨i, hi, h'⟩ := ha
                  obtain ⟨i1, i2⟩ := (mL i).mp hi
                  exact absurd (q1 i (hj3 i i1 i2)) h'
                · exact q2 j (by omega) hj2 hj3
          · replace hs : S' t = true := by simpa using hs
            refine ⟨S', lv', ⟨⟨_, _, _, rfl⟩, bt4, ok', dd4⟩, q1, fun j hj1 hj2 hj3 => ?_⟩
            by_cases e : j = t
            · rw [e]; exact hs
            · exact q2 j (by omega) hj2 hj3
        · rintro σ' H'' ⟨S', lv', iv, q1, q2⟩
          rw [List.length_map, lq] at q2
          refine ⟨n - cnt S' n, ?_, S', lv', rfl, iv⟩
          obtain ⟨j, hj, hs⟩ : ∃ j, j < n ∧ S j = false := by
            refine Classical.byContradiction fun hc => ?_
            have : cnt S n = n := cnt_all fun i hi => by
              cases e : S i with
              | true => rfl
              | false => exact absurd ⟨i, hi, e⟩ hc
            omega
          obtain ⟨j', h1, h2, h3⟩ := least_out hA S _ j hj hs (Nat.le_refl _)
          have h4 := q2 j' h1 h1 h3
          have h5 := cnt_add (S := S) (a := j') h2 (n := n)
          rw [if_pos h1] at h5
          have h6 : cnt (fun i => S i || decide (i = j')) n ≤ cnt S' n := cnt_mono fun i _ hi => by
            rcases Bool.or_eq_true_iff.mp hi with hi | hi
            · exact q1 i hi
            · rw [of_decide_eq_true hi]; exact h4
          omega
      · have hall : ∀ i, i < n → S i = true := fun i hi => by
          cases e : S i with
          | true => rfl
          | false =>
            have h5 := cnt_add (S := S) (a := i) e (n := n)
            rw [if_pos hi] at h5
            have := cnt_le (fun x => S x || decide (x = i)) n
            omega
        refine ⟨_, rfl, a, _, rfl, .inl (.inl (.inl (keep bt (s2 _ _ a1)))), ((n : Nat) : Int), by rw [List.length_map, lps], by omega, by omega, fun R hR => ?_⟩
        rw [Int.toNat_natCast]
        refine lc_accR (lo := 0) (n := n) (accM (List.range n) fun j => V.int (lv j : Nat)) (by omega) hR rfl (fun j H5 hj s5 _ K1 K0 k1 k0 => ?_) fun H5 s5 e5 => ?_
        · refine ⟨rfl, _, rfl, _, rfl, F', V.int (lv j : Nat), rfl, ?_, k1 _ _ (Same.refl _) (accM_succ (f := fun j => V.int (lv j : Nat)) (rangeget hj))⟩
          have := (dd.same (s5 _)).get j
          unfold lvV at this
          rw [if_pos (hall j hj)] at this
          rw [Int.zero_add]
          exact this
        · rw [accM_all (List.length_range).symm] at e5
          exact Qk R H5 lv (ok.all hall) (by rw [e5]; unfold nO nv; rw [List.map_map]; rfl) fun b o hb => s5 _ _ (keep bt (s2 _ _ hb))
end
end Bw
end
section
set_option Elab.async false
set_option linter.all false
set_option maxRecDepth 100000
set_option maxHeartbeats 4000000
namespace Bw
open PySem PySem.Spec PyProof.Rows L2
section
variable {w : World} {K : PySem.W.Frag} {mg : Str → Option Value} {base : Heap}
/-- a chain, as long as there are levels -/
structure ChainOk (A : Nat → Nat → Bool) (n : Nat) (xs : List Nat) : Prop where
  lt : ∀ x ∈ xs, x < n
  pw : xs.Pairwise fun x y => A x y = true
  top : ∃ lv : Nat → Nat, Levels A n lv ∧ ∀ i, i < n → lv i < xs.length
theorem Levels.many {A : Nat → Nat → Bool} {n : Nat} {lv : Nat → Nat} (h : Levels A n lv) : ∀ (v i : Nat), i < n → lv i = v → v + 1 ≤ cnt (fun x => decide (lv x ≤ v)) n
  | 0, i, hi, e => by
    have h1 := cnt_add (S := fun _ => false) (a := i) rfl (n := n)
    rw [if_pos hi] at h1
    have h2 : cnt (fun x => false || decide (x = i)) n ≤ cnt (fun x => decide (lv x ≤ 0)) n := cnt_mono fun x _ hx => by
      have : x = i := by simpa using hx
      rw [this, e]; rfl
    omega
  | v + 1, i, hi, e => by
    rcases h.by_ i hi with h0 | ⟨j, hj, a, e2⟩
    · omega
    · have h3 := Levels.many h v j hj (by omega)
      have h1 := cnt_add (S := fun x => decide (lv x ≤ v)) (a := i) (decide_eq_false (by omega)) (n := n)
      rw [if_pos hi] at h1
      have h2 : cnt (fun x => decide (lv x ≤ v) || decide (x = i)) n ≤ cnt (fun x => decide (lv x ≤ v + 1)) n := cnt_mono fun x _ hx => by
        rcases Bool.or_eq_true_iff.mp hx with hx | hx
        · have := of_decide_eq_true hx
          exact decide_eq_true (by omega)
        · have := of_decide_eq_true hx
          rw [this, e]; exact decide_eq_true (Nat.le_refl _)
      omega
theorem Levels.lt {A : Nat → Nat → Bool} {n : Nat} {lv : Nat → Nat} (h : Levels A n lv) {i : Nat} (hi : i < n) : lv i < n := by
  have h1 := h.many _ i hi rfl
  have h2 := cnt_le (fun x => decide (lv x ≤ lv i)) n
  omega
theorem ChainOk.most {A G : Nat → Nat → Bool} {n : Nat} {xs : List Nat} (hA : Strict A n) (h : ChainOk A n xs) (hG : ∀ i j, i < n → j < n → i ≠ j → G i j = (A i j || A j i)) : IsMost G n 1 xs.length := by
  obtain ⟨lv, l1, l2⟩ := h.top
  refine most_of (h.pw.imp_of_mem fun {a b} ha hb hab e => ?_) h.lt (fun x hx y hy ne => ?_) fun S hS => chain_bound l1.up l2 fun i j hi hj si sj ne => by rw [← hG i j hi hj ne]; exact hS i j hi hj si sj ne
  · rw [e, hA.irr b (h.lt b hb)] at hab; cases hab
  · rw [hG x y (h.lt x hx) (h.lt y hy) ne]
    have := List.pairwise_iff_getElem.mp h.pw
    obtain ⟨i, hi, rfl⟩ := List.mem_iff_getElem.mp hx
    obtain ⟨j, hj, rfl⟩ := List.mem_iff_getElem.mp hy
    rcases Nat.lt_trichotomy i j with h1 | h1 | h1
    · rw [this i j hi hj h1]; rfl
    · subst h1; exact absurd rfl ne
    · rw [this j i hj hi h1, Bool.or_true]
def spChain (K : PySem.W.Frag) : Sp := fun vs H Q _ => ∃ (p a : Addr) (bs : Bs) (ds : List Dir) (sm : Bool), vs = [.ref p, .ref a, .bl sm] ∧ RowAt K H p bs ∧ H a = some (.lst (txs (ds.map nmD))) ∧ bs.length ≤ 1000 ∧ Strict (aheadR ds sm bs.bows) bs.length ∧
  ∀ t H' xs, ChainOk (aheadR ds sm bs.bows) bs.length xs → H' t = some (nO xs) → Same H H' → Q (.ref t) H'
theorem rMaxD_lv {vs zs : List V} {H : Hp} {Q : VK} {a : Addr} {ns : List Nat} (h1 : vs = [.ref a]) (h2 : zs = [.int (-1)]) (hs : SqL K H a (nv ns)) (q : ∀ M : Nat, (∀ y ∈ ns, y < M) → (0 < M → ∃ y ∈ ns, y + 1 = M) → Q (.int ((M : Int) - 1)) H) : rMaxD K vs zs H Q := by
  refine ⟨a, ns.map fun i : Nat => (i : Int), -1, h1, h2, by rw [List.map_map]; exact hs, fun e => ?_, fun m hm hx => ?_⟩
  · have e' : ns = [] := List.map_eq_nil_iff.mp e
    exact q 0 (fun y hy => by rw [e'] at hy; cases hy) fun h => absurd h (Nat.lt_irrefl 0)
  · obtain ⟨y, hy, rfl⟩ := List.mem_map.mp hm
    have := q (y + 1) (fun z hz => by have := hx _ (List.mem_map.mpr ⟨z, hz, rfl⟩); omega) fun _ => ⟨y, hy, rfl⟩
    rw [show ((y + 1 : Nat) : Int) - 1 = y by omega] at this
    exact this
theorem sc_long_chain : FnScope ["row", "directions", "same", "behinds", "known", "found", "level", "some", "i"] ["row", "directions", "same"] (defScope s_long_chain) := ⟨rfl, rfl, rfl, by decide +kernel, rfl, by decide +kernel, by decide +kernel⟩
theorem ok_long_chain (c : Cy w K mg base) : Dk PG w K mg base "long_chain" 2 7 ["row", "directions", "same"] (spChain K) := by
  obtain ⟨fd, F⟩ := c.fd_long_chain
  have D_Row___len__ := ok_Row_len c
  have D_behinds_of := ok_behinds_of c
  have D_levels_known := ok_levels_known c
  refine ⟨walkK F (by intro h; cases h) sc_long_chain (fun vs H Q E h => ?_) (fun cdv A outer s H vs Q E hr h => ?_) fun _ _ _ _ _ _ us ws hl hw => match us, hl, ws, hw with | [_, _], _, [_], _ => rfl, c.m_long_chain, F.kp⟩
  · obtain ⟨a, b, _, _, _, rfl, _⟩ := h
    rfl
  · obtain ⟨p, a, bs, ds, sm, rfl, hR, ha, hlen, hA, Qk⟩ := h
    have hu := hu_of hr
    obtain ⟨dx, l, hp, hl⟩ := hR.ex
    refine ⟨_, (pss_cons (ps_set (i := 3) sc_long_chain.nd rfl (by first | exact Or.inl rfl | exact Or.inr rfl) (D_behinds_of.call (hr.mono (by decide)) rfl (pa_cons (pv 0) (pa_cons (pv 1) (pa_cons (pv 2) pa_nil)))))
      (pss_cons (ps_set (i := 4) sc_long_chain.nd rfl (by first | exact Or.inl rfl | exact Or.inr rfl) (D_levels_known.call (hr.mono (by decide)) rfl (pa_cons (pv 3) pa_nil)))
      (pss_cons (ps_set (i := 5) sc_long_chain.nd rfl (by first | exact Or.inl rfl | exact Or.inr rfl) (pe_lst pa_nil))
      (pss_cons (ps_for PassesOwn.never rfl (pi_range3 (by rfl) c.f_range (pa_cons (pe_callBK (cr_maxD_k (K0 := K) (by rfl) rfl (hu64 hr)) (by rfl) c.f_max (by decide +kernel) (pa_cons (pv 4) pa_nil) (pk_cons (pe_un un_neg pe_int) pk_nil)) (pa_cons (pe_un un_neg pe_int) (pa_cons (pe_un un_neg pe_int) pa_nil)))) (pg_name (i := 6) sc_long_chain.nd rfl (by first | exact Or.inl rfl | exact Or.inr rfl)) (pss_cons (ps_setLc (i := 7) rfl sc_long_chain.nd rfl rfl (sw_true rfl rfl rfl (by decide +kernel)) (pi_range1 (by rfl) c.f_range (pa_cons (pe_callB (Dm.len (K0 := K) (by rfl) D_Row___len__ (hr.mono (by decide))) (by rfl) c.f_len PySem.boot_len (pa_cons (pv 0) pa_nil)) pa_nil)) (blkOk_by (own := [("i", 8)]) (by show blkC ["row", "directions", "same", "behinds", "known", "found", "level", "some", "i"] (defScope s_long_chain) _ _ = true; decide +kernel)) (fun _ _ _ _ _ => (pg_name (i := 8) sc_long_chain.nd rfl (by first | exact Or.inl rfl | exact Or.inr rfl))) (fun _ _ _ _ _ => (pts_one (PW.pt (pw_and (pt_cmpR op_eq (pe_ix (ix_list_k (K0 := K) (by rfl)) (pv 4) (pv 8) (fun _ _ => rfl)) (pv 6) (nomark _)) (pw_and1 (PW.pt (pw_or (pt_cmpR (op_eqNil_k (K0 := K) (by rfl) hu) (pv 5) (pe_lst pa_nil) (nomark _)) (pw_or1 (pt_cmpR (op_in_seq_k (K0 := K) (by rfl)) (pe_ix (ix_list_k (K0 := K) (by rfl)) (pv 5) pe_int (fun _ _ => rfl)) (pe_ix (ix_list_k (K0 := K) (by rfl)) (pv 3) (pv 8) (fun _ _ => rfl)) (by rfl)))))))))) (fun _ _ _ _ _ => (pv 8)))
      (pss_one (ps_set (i := 5) sc_long_chain.nd rfl (by first | exact Or.inl rfl | exact Or.inr rfl) (pe_lst (pa_cons (pe_ix (ix_list_k (K0 := K) (by rfl)) (pv 7) pe_int (fun _ _ => rfl)) (pa_star_k (K0 := K) (by rfl) (pv 5) pa_nil)))))))
      (pss_one (ps_ret (pv 5))))))), ?_⟩
    refine ⟨_, rfl, _, rfl, _, rfl, p, a, bs, ds, sm, rfl, hR, ha, hlen, fun B H1 L1 s1 => ?_⟩
    generalize hAA : aheadR ds sm bs.bows = AA at hA L1 Qk
    generalize hn : bs.length = n at hA L1 Qk hlen
    refine ⟨_, rfl, B, n, AA, rfl, L1, hlen, hA, fun T H2 lv hlv t2 s2 => ?_⟩
    refine ⟨by decide, fun X hX => ?_⟩
    have b1000 : (1000 : Nat) < sizeLine := by decide
    have sX := same_upd (o := .lst []) hX
    have x3 : (upd H2 X (.lst [])) X = some (nO []) := upd_same
    have s12 := s1.trans s2
    have s3 := s12.trans sX
    have L3 := (L1.same s2).same sX
    have t3 := sX _ _ t2
    generalize upd H2 X (.lst []) = H3 at sX x3 s3 L3 t3 ⊢
    refine ⟨_, rfl, _, rfl, ?_⟩
    dsimp only [L2.tNil]
    refine rMaxD_lv (ns := (List.range n).map lv) rfl rfl (.inl (.inl t3)) fun M hM1 hM2 => ?_
    have hMn : M ≤ n := by
      by_cases h0 : 0 < M
      · obtain ⟨y, hy, e⟩ := hM2 h0
        obtain ⟨i, hi, rfl⟩ := List.mem_map.mp hy
        have := hlv.lt (List.mem_range.mp hi)
        omega
      · omega
    refine ⟨_, rfl, _, rfl, (M : Int) - 1, -1, -1, M, rfl, ?_, ?_⟩
    · have := RgC.neg (i := (M : Int) - 1) (j := -1) (by omega) (by omega) (by omega) (by omega)
      rw [show ((M : Int) - 1 - -1).toNat = M by omega] at this
      exact this
    refine for_rangeC (D := { nx := tRet (tVar 5) { nx := fun _ H' => Q .non H', rt := Q }, rt := Q }) (fun t σ H' => ∃ x6 x7 x8 X' xs, σ = [some (.ref p), some (.ref a), some (.bl sm), some (.ref B), some (.ref T), some (.ref X'), x6, x7, x8] ∧ Same H3 H' ∧ H' X' = some (nO xs) ∧ xs.length = t ∧ (∀ x ∈ xs, x < n) ∧ (xs.Pairwise fun x y => AA x y = true) ∧ ∀ x tl, xs = x :: tl → lv x + t = M) ?_ ?_ ?_
    · exact ⟨_, _, _, X, [], rfl, Same.refl _, x3, rfl, fun _ h => absurd h List.not_mem_nil, List.Pairwise.nil, fun _ _ h => by cases h⟩
    · rintro t σ H' ht ⟨x6, x7, x8, X', xs, rfl, sm', hx', lx, ltx, pw, hd⟩
      have st := s3.trans sm'
      refine ⟨_, rfl, p, dx, _, rfl, st _ _ hp, p, bs, rfl, hR.same st, bs.length, rfl, by omega, ?_⟩
      refine ⟨((n : Nat) : Int), by rw [hn], by omega, by omega, fun S hS => ?_⟩
      rw [Int.toNat_natCast]
      obtain ⟨ps, b1, b2, b3⟩ := L3.same sm'
      have lps : ps.length = n := by simpa using congrArg List.length b3
      have tt := sm' _ _ t3
      refine lc_accR (lo := 0) (n := n) (accF (List.range n) (fun i => decide (lv i + t + 1 = M) && (xs.isEmpty || AA i (xs.headD 0))) fun i => V.int (i : Nat)) (by omega) hS rfl (fun i H5 hi s5 _ K1 K0 k1 k0 => ?_) fun H5 s5 e5 => ?_
      · have hlvi : (nv ((List.range n).map lv))[i]? = some (.int (lv i : Nat)) := by
          unfold nv
          rw [List.getElem?_map, List.getElem?_map, rangeget hi]; rfl
        refine ⟨rfl, _, rfl, _, rfl, T, _, _, _, rfl, rfl, .inl (.inl (s5 _ _ tt)), atI_z hlvi, _, rfl, rfl, _, rfl, ?_⟩
        refine iteI (fun h => ?_) (fun h => ?_)
        · have hL : decide (lv i + t + 1 = M) = true := decide_eq_true (by omega)
          refine ⟨_, rfl, Nat.zero_le _, fun U hU => ⟨X', U, _, rfl, rfl, .inl (.inl ((same_upd hU) _ _ (s5 _ _ hx'))), .inl (.inl upd_same), _, rfl, ?_⟩⟩
          have sU := same_upd (o := .lst []) hU
          generalize upd H5 U (.lst []) = H6 at sU ⊢
          have s56 := s5.trans sU
          show if (nv xs).isEmpty = true then _ else _
          match xs, hx' with
          | [], _ =>
            refine iteT (iteT ⟨_, rfl, k1 _ _ sU ?_⟩)
            rw [Int.zero_add]
            exact accF_yes (rangeget hi) (by rw [hL]; rfl)
          | z :: tl, hx' =>
            refine iteF ?_
            obtain ⟨b, hb⟩ : ∃ b, ps[i]? = some b := ⟨_, List.getElem?_eq_getElem (by omega)⟩
            have hb2 : b.2 = nO (behL AA n i) := by
              have := congrArg (·[i]?) b3
              simp only [List.getElem?_map, hb, rangeget hi] at this
              simpa using this
            have hvb : ps.vs[i]? = some (.ref b.1) := by rw [List.getElem?_map, hb]; rfl
            have hb3 : H6 b.1 = some (nO (behL AA n i)) := by rw [← hb2]; exact s56 _ _ (b2 b (List.mem_of_getElem? hb))
            have hz0 : (nv (z :: tl))[0]? = some (.int (z : Nat)) := rfl
            refine ⟨_, rfl, X', _, 0, _, rfl, rfl, .inl (.inl (s56 _ _ hx')), atI_nat (j := 0) hz0, ?_⟩
            refine ⟨_, rfl, _, rfl, B, _, _, _, rfl, rfl, .inl (.inl (s56 _ _ b1)), atI_z hvb, ?_⟩
            refine ⟨b.1, nv (behL AA n i), rfl, .inl (.inl (.inl hb3)), rfl, flat_nv _, _, rfl, ?_⟩
            have ej : inV (V.int (z : Nat)) (nv (behL AA n i)) = AA i z := by
              rw [inV_nv, Bool.eq_iff_iff, List.contains_iff_mem, behL_mem]
              exact ⟨fun h => h.2, fun h => ⟨ltx z (List.mem_cons_self ..), h⟩⟩
            show if inV (V.int (z : Nat)) (nv (behL AA n i)) = true then _ else _
            rw [ej]
            refine iteB (fun h => ?_) (fun h => ?_)
            · refine ⟨_, rfl, k1 _ _ sU ?_⟩
              rw [Int.zero_add]
              exact accF_yes (rangeget hi) (by rw [hL]; exact h)
            · exact k0 _ sU (accF_no (rangeget hi) (by rw [hL]; exact h))
        · exact iteF (k0 _ (Same.refl _) (accF_no (rangeget hi) (by rw [decide_eq_false (by omega)]; rfl)))
      · rw [accF_all (List.length_range).symm] at e5
        generalize hL : ((List.range n).filter fun i => decide (lv i + t + 1 = M) && (xs.isEmpty || AA i (xs.headD 0))) = L at e5
        have mL : ∀ i, i ∈ L ↔ i < n ∧ lv i + t + 1 = M ∧ (xs = [] ∨ AA i (xs.headD 0) = true) := fun i => by
          rw [← hL, List.mem_filter, List.mem_range, Bool.and_eq_true, Bool.or_eq_true, decide_eq_true_eq, List.isEmpty_iff]
        obtain ⟨y, yl, eL⟩ : ∃ y yl, L = y :: yl := by
          obtain ⟨y, hy⟩ : ∃ y, y ∈ L := by
            match xs, lx, ltx, hd, mL with
            | [], lx, _, _, mL =>
              obtain ⟨y, hy, e⟩ := hM2 (by omega)
              obtain ⟨i, hi, rfl⟩ := List.mem_map.mp hy
              refine ⟨i, (mL i).mpr ⟨List.mem_range.mp hi, ?_, .inl rfl⟩⟩
              have : t = 0 := lx.symm
              omega
            | z :: tl, lx, ltx, hd, mL =>
              have hz := hd z tl rfl
              rcases hlv.by_ z (ltx z (List.mem_cons_self ..)) with h0 | ⟨i, hi, a, e⟩
              · omega
              · exact ⟨i, (mL i).mpr ⟨hi, by omega, .inr a⟩⟩
          match L, hy with
          | y :: yl, _ => exact ⟨y, yl, rfl⟩
        subst eL
        obtain ⟨y1, y2, y3⟩ := (mL y).mp (List.mem_cons_self ..)
        have hy0 : (nv (y :: yl))[0]? = some (.int (y : Nat)) := rfl
        refine ⟨_, rfl, S, _, 0, _, rfl, rfl, .inl (.inl e5), atI_nat (j := 0) hy0, ?_⟩
        refine ⟨_, rfl, X', _, rfl, .inr (.inl (.inl (s5 _ _ hx'))), ?_, fun Z hZ => ?_⟩
        · rw [List.append_nil, List.length_cons, List.length_map, lx]; omega
        · refine ⟨_, _, _, Z, y :: xs, rfl, (sm'.trans s5).trans (same_upd hZ), by rw [upd_same, List.append_nil]; rfl, by rw [List.length_cons, lx], fun x hx => ?_, ?_, fun x tl e => ?_⟩
          · rcases List.mem_cons.mp hx with h | h
            · rw [h]; exact y1
            · exact ltx x h
          · refine List.pairwise_cons.mpr ⟨fun x hx => ?_, pw⟩
            match xs, pw, y3, ltx, hx with
            | z :: tl, pw, y3, ltx, hx =>
              have yz : AA y z = true := by
                rcases y3 with h | h
                · cases h
                · exact h
              rcases List.mem_cons.mp hx with h | h
              · rw [h]; exact yz
              · exact hA.tr y z x y1 (ltx z (List.mem_cons_self ..)) (ltx x hx) yz ((List.pairwise_cons.mp pw).1 x h)
          · injection e with e1 e2
            rw [← e1]; omega
    · rintro σ H' ⟨x6, x7, x8, X', xs, rfl, sm', hx', lx, ltx, pw, hd⟩
      refine ⟨_, rfl, Qk X' H' xs ⟨ltx, pw, lv, hlv, fun i hi => ?_⟩ hx' (s3.trans sm')⟩
      rw [lx]
      exact hM1 _ (List.mem_map.mpr ⟨i, List.mem_range.mpr hi, rfl⟩)
end
end Bw
end
section
set_option linter.all false
set_option maxRecDepth 100000
set_option maxHeartbeats 4000000
/-! Pairings: what one improvement keeps, and why none can be better. -/
namespace Bw
abbrev Pm := Nat → Option Nat
def Pm.put (f : Pm) (a b : Nat) : Pm := fun x => if x = a then some b else f x
theorem Pm.put_eq (f : Pm) (a b : Nat) : f.put a b a = some b := if_pos rfl
theorem Pm.put_ne (f : Pm) {a b x : Nat} (h : x ≠ a) : f.put a b x = f x := if_neg h
/-- nexts and lasts fit each other -/
structure Mt (A : Nat → Nat → Bool) (n : Nat) (nx ls : Pm) : Prop where
  fwd : ∀ i j, nx i = some j → ls j = some i
  bwd : ∀ j i, ls j = some i → nx i = some j ∧ i < n ∧ j < n ∧ A i j = true
/-- ones ahead that can reach only ones behind that are taken by them -/
def Closed (A : Nat → Nat → Bool) (n : Nat) (ls : Pm) (D T : Nat → Bool) : Prop :=
  (∀ i j, j < n → D i = true → A i j = true → T j = true) ∧ ∀ j, T j = true → ∃ i, ls j = some i ∧ D i = true
structure Pre (A : Nat → Nat → Bool) (n i : Nat) (seen : Nat → Bool) (nx ls : Pm) : Prop where
  mt : Mt A n nx ls
  lt : i < n
  sn : ∀ j, nx i = some j → seen j = true
def cut (a : Option Nat) (ls : Pm) : Pm := fun j => if a = some j then none else ls j
theorem cut_some {a : Option Nat} {ls : Pm} {y x : Nat} : cut a ls y = some x ↔ a ≠ some y ∧ ls y = some x := by
  unfold cut
  by_cases h : a = some y
  · simp [h]
  · simp [h]
/-- an improvement that came about -/
structure ImpT (A : Nat → Nat → Bool) (n i : Nat) (seen : Nat → Bool) (nx ls nx' ls' : Pm) : Prop where
  j1 : ∃ j, j < n ∧ seen j = false ∧ nx' i = some j
  mt : Mt A n nx' (cut (nx i) ls')
  keep : ∀ j, seen j = true → ls' j = ls j
  dom : ∀ x, (nx' x).isSome = ((nx x).isSome || decide (x = i))
  closed : ∀ D T, Closed A n ls D T → D i = false ∧ ∀ j, T j = true → ls' j = ls j
/-- the ones seen, where it did not -/
structure ImpF (A : Nat → Nat → Bool) (n i : Nat) (seen seen' : Nat → Bool) (ls : Pm) : Prop where
  sub : ∀ j, seen j = true → seen' j = true
  all : ∀ j, j < n → A i j = true → seen' j = true
  cl : ∀ j, seen' j = true → seen j = false → ∃ i2, ls j = some i2 ∧ ∀ j2, j2 < n → A i2 j2 = true → seen' j2 = true
/-- the same, inside the loop -/
structure ImpL (A : Nat → Nat → Bool) (n : Nat) (seen seen' : Nat → Bool) (ls : Pm) : Prop where
  sub : ∀ j, seen j = true → seen' j = true
  cl : ∀ j, seen' j = true → seen j = false → ∃ i2, ls j = some i2 ∧ ∀ j2, j2 < n → A i2 j2 = true → seen' j2 = true
variable {A : Nat → Nat → Bool} {n i j i' : Nat} {seen sn sn' : Nat → Bool} {nx ls nx1 ls1 : Pm}
theorem ImpL.nil : ImpL A n seen seen ls := ⟨fun _ h => h, fun j h1 h2 => by rw [h1] at h2; cases h2⟩
theorem imp_free (P : Pre A n i seen nx ls) (hj : j < n) (a : A i j = true) (hs : seen j = false) (hl : ls j = none) : ImpT A n i seen nx ls (nx.put i j) (ls.put j i) := by
  have nij : nx i ≠ some j := fun e => by rw [P.sn j e] at hs; cases hs
  refine ⟨⟨j, hj, hs, Pm.put_eq _ _ _⟩, ⟨fun x y e => ?_, fun y x e => ?_⟩, fun y hy => ?_, fun x => ?_, fun D T C => ⟨?_, fun y hy => ?_⟩⟩
  · by_cases ex : x = i
    · subst ex
      rw [Pm.put_eq] at e
      injection e with e
      subst e
      exact cut_some.mpr ⟨nij, Pm.put_eq _ _ _⟩
    · rw [Pm.put_ne _ ex] at e
      have h := P.mt.fwd x y e
      have ny : y ≠ j := fun z => by rw [z, hl] at h; cases h
      refine cut_some.mpr ⟨fun z => ?_, by rw [Pm.put_ne _ ny]; exact h⟩
      rw [P.mt.fwd i y z] at h
      injection h with h
      exact ex h.symm
  · obtain ⟨h1, h2⟩ := cut_some.mp e
    by_cases ey : y = j
    · subst ey
      rw [Pm.put_eq] at h2
      injection h2 with h2
      subst h2
      exact ⟨Pm.put_eq _ _ _, P.lt, hj, a⟩
    · rw [Pm.put_ne _ ey] at h2
      obtain ⟨g1, g2⟩ := P.mt.bwd y x h2
      have ex : x ≠ i := fun z => h1 (by rw [← z]; exact g1)
      exact ⟨by rw [Pm.put_ne _ ex]; exact g1, g2⟩
  · exact Pm.put_ne _ fun z => by rw [z, hs] at hy; cases hy
  · by_cases ex : x = i
    · rw [ex, Pm.put_eq]; simp
    · rw [Pm.put_ne _ ex]; simp [ex]
  · cases hD : D i with
    | false => rfl
    | true =>
      obtain ⟨_, h, _⟩ := C.2 j (C.1 i j hj hD a)
      rw [hl] at h; cases h
  · refine Pm.put_ne _ fun z => ?_
    obtain ⟨_, h, _⟩ := C.2 y hy
    rw [z, hl] at h; cases h
theorem imp_deep (P : Pre A n i seen nx ls) (hsub : ∀ x, seen x = true → sn x = true) (hj : j < n) (a : A i j = true) (hs : sn j = false) (hl : ls j = some i')
    (T1 : ImpT A n i' (fun x => sn x || decide (x = j)) nx ls nx1 ls1) : ImpT A n i seen nx ls (nx1.put i j) (ls1.put j i) := by
  have hs0 : seen j = false := by
    cases h : seen j with
    | false => rfl
    | true => rw [hsub j h] at hs; cases hs
  have nij : nx i ≠ some j := fun e => by rw [P.sn j e] at hs0; cases hs0
  have ni' : nx i' = some j := (P.mt.bwd j i' hl).1
  have nii : i ≠ i' := fun e => nij (by rw [e]; exact ni')
  have kp : ∀ y, seen y = true → ls1 y = ls y := fun y hy => T1.keep y (by simp [hsub y hy])
  have nx1i : nx1 i = nx i := by
    cases h : nx i with
    | none =>
      have h2 := T1.dom i
      rw [h, decide_eq_false nii] at h2
      cases h3 : nx1 i with
      | none => rfl
      | some _ => rw [h3] at h2; cases h2
    | some j0 =>
      have h1 := P.sn j0 h
      have nj : j ≠ j0 := fun z => by rw [z, h1] at hs0; cases hs0
      refine (T1.mt.bwd j0 i (cut_some.mpr ⟨by rw [ni']; intro z; injection z with z; exact nj z, ?_⟩)).1
      rw [kp j0 h1]; exact P.mt.fwd i j0 h
  refine ⟨⟨j, hj, hs0, Pm.put_eq _ _ _⟩, ⟨fun x y e => ?_, fun y x e => ?_⟩, fun y hy => ?_, fun x => ?_, fun D T C => ?_⟩
  · by_cases ex : x = i
    · subst ex
      rw [Pm.put_eq] at e
      injection e with e
      subst e
      exact cut_some.mpr ⟨nij, Pm.put_eq _ _ _⟩
    · rw [Pm.put_ne _ ex] at e
      obtain ⟨h1, h2⟩ := cut_some.mp (T1.mt.fwd x y e)
      have ny : y ≠ j := fun z => h1 (by rw [z]; exact ni')
      refine cut_some.mpr ⟨fun z => ?_, by rw [Pm.put_ne _ ny]; exact h2⟩
      rw [kp y (P.sn y z), P.mt.fwd i y z] at h2
      injection h2 with h2
      exact ex h2.symm
  · obtain ⟨h1, h2⟩ := cut_some.mp e
    by_cases ey : y = j
    · subst ey
      rw [Pm.put_eq] at h2
      injection h2 with h2
      subst h2
      exact ⟨Pm.put_eq _ _ _, P.lt, hj, a⟩
    · rw [Pm.put_ne _ ey] at h2
      obtain ⟨g1, g2⟩ := T1.mt.bwd y x (cut_some.mpr ⟨by rw [ni']; intro z; injection z with z; exact ey z.symm, h2⟩)
      have ex : x ≠ i := fun z => h1 (by rw [← nx1i, ← z]; exact g1)
      exact ⟨by rw [Pm.put_ne _ ex]; exact g1, g2⟩
  · rw [Pm.put_ne _ fun z => by rw [z, hs0] at hy; cases hy]
    exact kp y hy
  · by_cases ex : x = i
    · rw [ex, Pm.put_eq]; simp
    · rw [Pm.put_ne _ ex, T1.dom x]
      by_cases e2 : x = i'
      · rw [e2, ni']; simp
      · simp [ex, e2]
  · obtain ⟨c1, c2⟩ := T1.closed D T C
    have hT : T j = false := by
      cases h : T j with
      | false => rfl
      | true =>
        obtain ⟨i2, h1, h2⟩ := C.2 j h
        rw [hl] at h1
        injection h1 with h1
        rw [← h1, c1] at h2; cases h2
    refine ⟨?_, fun y hy => ?_⟩
    · cases hD : D i with
      | false => rfl
      | true => rw [C.1 i j hj hD a] at hT; cases hT
    · rw [Pm.put_ne _ fun z => by rw [z, hT] at hy; cases hy]
      exact c2 y hy
/-- one that was tried in vain -/
theorem ImpL.step (L : ImpL A n seen sn ls) (hs : sn j = false) (hl : ls j = some i') (F : ImpF A n i' (fun x => sn x || decide (x = j)) sn' ls) : ImpL A n seen sn' ls ∧ sn' j = true ∧ ∀ x, sn x = true → sn' x = true := by
  have h1 : ∀ x, sn x = true → sn' x = true := fun x hx => F.sub x (by simp [hx])
  refine ⟨⟨fun x hx => h1 x (L.sub x hx), fun x hx h0 => ?_⟩, F.sub j (by simp), h1⟩
  by_cases e : x = j
  · rw [e]; exact ⟨i', hl, F.all⟩
  · cases h : sn x with
    | true =>
      obtain ⟨i2, g1, g2⟩ := L.cl x h h0
      exact ⟨i2, g1, fun j2 a b => h1 _ (g2 j2 a b)⟩
    | false => exact F.cl x hx (by simp [h, e])
theorem ImpL.toF (L : ImpL A n seen sn ls) (h : ∀ j, j < n → A i j = true → sn j = true) : ImpF A n i seen sn ls := ⟨L.sub, h, L.cl⟩
/-- the next of one that stands before the turn -/
theorem Pre.deep (P : Pre A n i seen nx ls) (hl : ls j = some i') : Pre A n i' (fun x => sn x || decide (x = j)) nx ls := by
  obtain ⟨h1, h2, _, _⟩ := P.mt.bwd j i' hl
  refine ⟨P.mt, h2, fun y hy => ?_⟩
  rw [h1] at hy
  injection hy with hy
  simp [hy]
/-- the pairing after the first ones were tried -/
structure Tried (A : Nat → Nat → Bool) (n t : Nat) (nx ls : Pm) : Prop where
  mt : Mt A n nx ls
  new : ∀ i, t ≤ i → nx i = none
  dead : ∃ D T, Closed A n ls D T ∧ ∀ i, i < t → nx i = none → D i = true
theorem Tried.start : Tried A n 0 (fun _ => none) (fun _ => none) :=
  ⟨⟨fun _ _ h => absurd h (by simp), fun _ _ h => absurd h (by simp)⟩, fun _ _ => rfl, fun _ => false, fun _ => false, ⟨fun _ _ _ h => Bool.noConfusion h, fun _ h => Bool.noConfusion h⟩, fun _ h => absurd h (Nat.not_lt_zero _)⟩
theorem cut_none {ls : Pm} : cut none ls = ls := by
  funext j
  unfold cut
  rw [if_neg (fun z => by cases z)]
theorem Tried.yes {t : Nat} (h : Tried A n t nx ls) (T1 : ImpT A n t seen nx ls nx1 ls1) : Tried A n (t + 1) nx1 ls1 := by
  have h0 := h.new t (Nat.le_refl _)
  obtain ⟨D, T, C, hd⟩ := h.dead
  obtain ⟨c1, c2⟩ := T1.closed D T C
  have hm := T1.mt
  rw [h0, cut_none] at hm
  refine ⟨hm, fun i hi => ?_, D, T, ⟨C.1, fun j hj => by rw [c2 j hj]; exact C.2 j hj⟩, fun i hi e => ?_⟩
  · have := T1.dom i
    rw [h.new i (by omega), decide_eq_false (by omega)] at this
    cases e : nx1 i with
    | none => rfl
    | some _ => rw [e] at this; cases this
  · have := T1.dom i
    rw [e] at this
    have h2 : (nx i).isSome = false ∧ i ≠ t := by
      cases q : (nx i).isSome <;> simp_all
    exact hd i (by omega) (by simpa using h2.1)
theorem Tried.no {t : Nat} (h : Tried A n t nx ls) (F : ImpF A n t (fun _ => false) sn ls) : Tried A n (t + 1) nx ls := by
  obtain ⟨D, T, C, hd⟩ := h.dead
  refine ⟨h.mt, fun i hi => h.new i (by omega), fun i => D i || decide (i = t) || (match nx i with | some j => sn j | none => false), fun j => T j || sn j, ⟨fun i j hj hi a => ?_, fun j hj => ?_⟩, fun i hi e => ?_⟩
  · show (T j || sn j) = true
    rcases Bool.or_eq_true_iff.mp hi with hi | hi
    · rcases Bool.or_eq_true_iff.mp hi with hi | hi
      · rw [C.1 i j hj hi a]; rfl
      · rw [F.all j hj (by rw [← of_decide_eq_true hi]; exact a), Bool.or_true]
    · cases e : nx i with
      | none => rw [e] at hi; cases hi
      | some j0 =>
        rw [e] at hi
        obtain ⟨i2, g1, g2⟩ := F.cl j0 hi rfl
        rw [h.mt.fwd i j0 e] at g1
        injection g1 with g1
        rw [g2 j hj (by rw [← g1]; exact a), Bool.or_true]
  · rcases Bool.or_eq_true_iff.mp hj with hj | hj
    · obtain ⟨i, g1, g2⟩ := C.2 j hj
      exact ⟨i, g1, by simp [g2]⟩
    · obtain ⟨i2, g1, _⟩ := F.cl j hj rfl
      refine ⟨i2, g1, ?_⟩
      have e := (h.mt.bwd j i2 g1).1
      simp [e, hj]
  · by_cases e2 : i = t
    · simp [e2]
    · simp [hd i (by omega) e]
end Bw
end
section
set_option linter.all false
set_option maxRecDepth 100000
set_option maxHeartbeats 4000000
/-! What is reached from the ends of chains; the greatest antichain. -/
namespace Bw
variable {A : Nat → Nat → Bool} {n : Nat} {nx ls : Pm} {D T ah be : Nat → Bool} {W : Nat → Prop}
structure Reach (A : Nat → Nat → Bool) (n : Nat) (nx ls : Pm) (D T ah be : Nat → Bool) (W : Nat → Prop) : Prop where
  free : ∀ i, i < n → nx i = none → ah i = true
  an : ∀ i, ah i = true → i < n
  aD : ∀ i, ah i = true → D i = true
  bT : ∀ j, be j = true → T j = true
  lsb : ∀ j, be j = true → ∃ i, ls j = some i ∧ ah i = true
  done : ∀ i, ah i = true → W i ∨ ∀ j, j < n → A i j = true → be j = true
  org : ∀ i, ah i = true → nx i = none ∨ ∃ j, nx i = some j ∧ be j = true
theorem Reach.start (M : Mt A n nx ls) (hD : ∀ i, i < n → nx i = none → D i = true) : Reach A n nx ls D T (fun i => decide (i < n) && (nx i).isNone) (fun _ => false) (fun i => i < n ∧ nx i = none) := by
  have h : ∀ i, (decide (i < n) && (nx i).isNone) = true → i < n ∧ nx i = none := fun i hi => by
    obtain ⟨h1, h2⟩ := Bool.and_eq_true_iff.mp hi
    exact ⟨of_decide_eq_true h1, by simpa using h2⟩
  exact ⟨fun i hi e => by simp [hi, e], fun i hi => (h i hi).1, fun i hi => hD i (h i hi).1 (h i hi).2, fun j hj => Bool.noConfusion hj, fun j hj => Bool.noConfusion hj, fun i hi => .inl (h i hi), fun i hi => .inl (h i hi).2⟩
theorem Reach.mono {W' : Nat → Prop} (R : Reach A n nx ls D T ah be W) (h : ∀ i, ah i = true → W i → W' i ∨ ∀ j, j < n → A i j = true → be j = true) : Reach A n nx ls D T ah be W' :=
  { R with done := fun i hi => (R.done i hi).elim (h i hi) .inr }
/-- the one that a reached one behind is taken by -/
theorem Reach.ex (R : Reach A n nx ls D T ah be W) (C : Closed A n ls D T) {i j : Nat} (hi : ah i = true) (hj : j < n) (a : A i j = true) : ∃ i1, ls j = some i1 ∧ D i1 = true :=
  C.2 j (C.1 i j hj (R.aD i hi) a)
theorem Reach.old (R : Reach A n nx ls D T ah be W) (C : Closed A n ls D T) {i j i1 : Nat} (hi : ah i = true) (hj : j < n) (a : A i j = true) (e : ls j = some i1) (h1 : ah i1 = true) :
    Reach A n nx ls D T ah (fun x => be x || decide (x = j)) W :=
  { R with
    bT := fun x hx => by
      rcases Bool.or_eq_true_iff.mp hx with hx | hx
      · exact R.bT x hx
      · rw [of_decide_eq_true hx]; exact C.1 i j hj (R.aD i hi) a
    lsb := fun x hx => by
      rcases Bool.or_eq_true_iff.mp hx with hx | hx
      · exact R.lsb x hx
      · rw [of_decide_eq_true hx]; exact ⟨i1, e, h1⟩
    done := fun x hx => (R.done x hx).imp id fun h y hy a => by simp [h y hy a]
    org := fun x hx => (R.org x hx).imp id fun ⟨y, h1, h2⟩ => ⟨y, h1, by simp [h2]⟩ }
theorem Reach.add (R : Reach A n nx ls D T ah be W) (M : Mt A n nx ls) (C : Closed A n ls D T) {i j i1 : Nat} (hi : ah i = true) (hj : j < n) (a : A i j = true) (e : ls j = some i1) :
    Reach A n nx ls D T (fun x => ah x || decide (x = i1)) (fun x => be x || decide (x = j)) fun x => W x ∨ x = i1 := by
  obtain ⟨m1, m2, _, _⟩ := M.bwd j i1 e
  obtain ⟨i2, g1, g2⟩ := R.ex C hi hj a
  rw [e] at g1
  injection g1 with g1
  subst g1
  refine ⟨fun x hx h => by simp [R.free x hx h], fun x hx => ?_, fun x hx => ?_, fun x hx => ?_, fun x hx => ?_, fun x hx => ?_, fun x hx => ?_⟩
  · rcases Bool.or_eq_true_iff.mp hx with hx | hx
    · exact R.an x hx
    · rw [of_decide_eq_true hx]; exact m2
  · rcases Bool.or_eq_true_iff.mp hx with hx | hx
    · exact R.aD x hx
    · rw [of_decide_eq_true hx]; exact g2
  · rcases Bool.or_eq_true_iff.mp hx with hx | hx
    · exact R.bT x hx
    · rw [of_decide_eq_true hx]; exact C.1 i j hj (R.aD i hi) a
  · rcases Bool.or_eq_true_iff.mp hx with hx | hx
    · obtain ⟨y, h1, h2⟩ := R.lsb x hx
      exact ⟨y, h1, by simp [h2]⟩
    · rw [of_decide_eq_true hx]; exact ⟨i1, e, by simp⟩
  · rcases Bool.or_eq_true_iff.mp hx with hx | hx
    · exact (R.done x hx).imp .inl fun h y hy a => by simp [h y hy a]
    · exact .inl (.inr (of_decide_eq_true hx))
  · rcases Bool.or_eq_true_iff.mp hx with hx | hx
    · exact (R.org x hx).imp id fun ⟨y, h1, h2⟩ => ⟨y, h1, by simp [h2]⟩
    · rw [of_decide_eq_true hx]; exact .inr ⟨j, m1, by simp⟩
theorem cnt_split (S T : Nat → Bool) : ∀ n, cnt S n = cnt (fun i => S i && T i) n + cnt (fun i => S i && !T i) n
  | 0 => rfl
  | n + 1 => by
    show cnt S n + _ = (cnt _ n + _) + (cnt _ n + _)
    rw [cnt_split S T n]
    cases h1 : S n <;> cases h2 : T n <;> simp [h1, h2] <;> omega
theorem cnt_not (S : Nat → Bool) : ∀ n, cnt S n + cnt (fun i => !S i) n = n
  | 0 => rfl
  | n + 1 => by
    show (cnt S n + _) + (cnt _ n + _) = _
    have := cnt_not S n
    cases h1 : S n <;> simp [h1] <;> omega
/-- no antichain has more than there are ends of chains -/
theorem anti_bound (hA : Strict A n) (M : Mt A n nx ls) {S : Nat → Bool} (hS : ∀ i j, i < n → j < n → S i = true → S j = true → i ≠ j → A i j = false) : cnt S n ≤ cnt (fun i => (nx i).isNone) n := by
  have key : cnt (fun i => (nx i).isSome) n ≤ cnt (fun i => !S i) n := by
    have up : ∀ i, i < n → Decidable (S i = true ∨ ∃ s, s < n ∧ S s = true ∧ A s i = true) := fun i _ => Classical.propDecidable _
    let f : Nat → Nat := fun i => @ite _ (S i = true ∨ ∃ s, s < n ∧ S s = true ∧ A s i = true) (Classical.propDecidable _) ((nx i).getD 0) i
    have f1 : ∀ i, (S i = true ∨ ∃ s, s < n ∧ S s = true ∧ A s i = true) → f i = (nx i).getD 0 := fun i h => @if_pos _ (Classical.propDecidable _) h _ _ _
    have f2 : ∀ i, ¬ (S i = true ∨ ∃ s, s < n ∧ S s = true ∧ A s i = true) → f i = i := fun i h => @if_neg _ (Classical.propDecidable _) h _ _ _
    have nxp : ∀ i, (nx i).isSome = true → ∃ j, nx i = some j ∧ i < n ∧ j < n ∧ A i j = true := fun i h => by
      obtain ⟨j, e⟩ := Option.isSome_iff_exists.mp h
      exact ⟨j, e, (M.bwd j i (M.fwd i j e)).2⟩
    have beh : ∀ i j, nx i = some j → (S i = true ∨ ∃ s, s < n ∧ S s = true ∧ A s i = true) → ∃ s, s < n ∧ S s = true ∧ A s j = true := fun i j e h => by
      obtain ⟨_, h1, h2, h3⟩ := M.bwd j i (M.fwd i j e)
      rcases h with h | ⟨s, q1, q2, q3⟩
      · exact ⟨i, h1, h, h3⟩
      · exact ⟨s, q1, q2, hA.tr s i j q1 h1 h2 q3 h3⟩
    have out : ∀ j, j < n → (∃ s, s < n ∧ S s = true ∧ A s j = true) → S j = false := fun j hj ⟨s, q1, q2, q3⟩ => by
      cases h : S j with
      | false => rfl
      | true =>
        by_cases e : s = j
        · rw [e, hA.irr j hj] at q3; cases q3
        · rw [hS s j q1 hj q2 h e] at q3; cases q3
    refine cnt_inj f (fun i hi hs => ?_) fun i j hi hj si sj e => ?_
    · obtain ⟨j, e, _, hj, a⟩ := nxp i hs
      by_cases h : S i = true ∨ ∃ s, s < n ∧ S s = true ∧ A s i = true
      · rw [f1 i h, e]
        exact ⟨hj, by rw [show (some j).getD 0 = j from rfl, out j hj (beh i j e h)]; rfl⟩
      · rw [f2 i h]
        refine ⟨hi, ?_⟩
        cases q : S i with
        | false => rfl
        | true => exact absurd (.inl q) h
    · obtain ⟨a, ea, _, ha, _⟩ := nxp i si
      obtain ⟨b, eb, _, hb, _⟩ := nxp j sj
      by_cases h1 : S i = true ∨ ∃ s, s < n ∧ S s = true ∧ A s i = true
      · by_cases h2 : S j = true ∨ ∃ s, s < n ∧ S s = true ∧ A s j = true
        · rw [f1 i h1, f1 j h2, ea, eb] at e
          have e' : a = b := e
          have l1 := M.fwd i a ea
          rw [e', M.fwd j b eb] at l1
          injection l1 with l1
          exact l1.symm
        · rw [f1 i h1, f2 j h2, ea] at e
          have e' : a = j := e
          exact absurd (.inr (by rw [← e']; exact beh i a ea h1)) h2
      · by_cases h2 : S j = true ∨ ∃ s, s < n ∧ S s = true ∧ A s j = true
        · rw [f2 i h1, f1 j h2, eb] at e
          have e' : i = b := e
          exact absurd (.inr (by rw [e']; exact beh j b eb h2)) h1
        · rw [f2 i h1, f2 j h2] at e; exact e
  have c1 := cnt_not S n
  have c2 := cnt_not (fun i => (nx i).isSome) n
  have c3 : cnt (fun i => !(nx i).isSome) n = cnt (fun i => (nx i).isNone) n := cnt_congr fun i _ => by cases nx i <;> rfl
  omega
theorem Reach.most {G : Nat → Nat → Bool} (hA : Strict A n) (M : Mt A n nx ls) (R : Reach A n nx ls D T ah be fun _ => False) (hG : ∀ i j, i < n → j < n → i ≠ j → G i j = !(A i j || A j i)) :
    IsMost G n 1 (cnt (fun i => ah i && !be i) n) := by
  have hU : ∀ i j, i < n → j < n → (ah i && !be i) = true → (ah j && !be j) = true → A i j = false := fun i j hi hj h1 h2 => by
    obtain ⟨a1, _⟩ := Bool.and_eq_true_iff.mp h1
    obtain ⟨_, b2⟩ := Bool.and_eq_true_iff.mp h2
    cases e : A i j with
    | false => rfl
    | true =>
      rcases R.done i a1 with h | h
      · exact h.elim
      · rw [h j hj e] at b2; cases b2
  have big : cnt (fun i => (nx i).isNone) n ≤ cnt (fun i => ah i && !be i) n := by
    have e1 := cnt_split ah (fun i => (nx i).isNone) n
    have e2 := cnt_split ah be n
    have e3 : cnt (fun i => ah i && (nx i).isNone) n = cnt (fun i => (nx i).isNone) n := cnt_congr fun i hi => by
      cases h : (nx i).isNone with
      | false => rw [Bool.and_false]
      | true => rw [R.free i hi (by simpa using h)]; rfl
    have e4 : cnt (fun i => ah i && be i) n ≤ cnt (fun i => ah i && !(nx i).isNone) n := by
      refine cnt_inj (fun j => (ls j).getD 0) (fun j hj h => ?_) fun j j' hj hj' h h' e => ?_
      · obtain ⟨_, b⟩ := Bool.and_eq_true_iff.mp h
        obtain ⟨i, l1, l2⟩ := R.lsb j b
        rw [l1]
        refine ⟨R.an i l2, ?_⟩
        show (ah i && !(nx i).isNone) = true
        rw [l2, (M.bwd j i l1).1]; rfl
      · obtain ⟨_, b⟩ := Bool.and_eq_true_iff.mp h
        obtain ⟨_, b'⟩ := Bool.and_eq_true_iff.mp h'
        obtain ⟨i, l1, _⟩ := R.lsb j b
        obtain ⟨i', l1', _⟩ := R.lsb j' b'
        rw [l1, l1'] at e
        have e' : i = i' := e
        have m1 := (M.bwd j i l1).1
        rw [e', (M.bwd j' i' l1').1] at m1
        injection m1 with m1
        exact m1.symm
    omega
  refine ⟨⟨fun i => ah i && !be i, ⟨fun _ => 0, fun _ _ _ => Nat.zero_lt_one, fun i j hi hj h1 h2 ne _ => ?_⟩, rfl⟩, fun S ⟨f, g1, g2⟩ => Nat.le_trans (anti_bound hA M (S := S) fun i j hi hj h1 h2 ne => ?_) big⟩
  · rw [hG i j hi hj ne, hU i j hi hj h1 h2, hU j i hj hi h2 h1]; rfl
  · have := g2 i j hi hj h1 h2 ne (by have := g1 i hi h1; have := g1 j hj h2; omega)
    rw [hG i j hi hj ne] at this
    cases e : A i j with
    | false => rfl
    | true => rw [e] at this; cases this
end Bw
end
section
set_option Elab.async false
set_option linter.all false
set_option maxRecDepth 100000
set_option maxHeartbeats 4000000
namespace Bw
open PySem PySem.Spec PyProof.Rows L2
section
variable {w : World} {K : PySem.W.Frag} {mg : Str → Option Value} {base : Heap}
def pmV (f : Pm) (j : Nat) : Option V := (f j).map fun x => .int (x : Nat)
def seV (s : Nat → Bool) (j : Nat) : Option V := if s j = true then some (.bl true) else none
theorem pmV_some {f : Pm} {j : Nat} : (pmV f j).isSome = (f j).isSome := by unfold pmV; cases f j <;> rfl
theorem seV_some {s : Nat → Bool} {j : Nat} : (seV s j).isSome = s j := by unfold seV; cases s j <;> rfl
theorem pmV_put {f : Pm} {j x : Nat} : (fun i => if i = j then some (V.int (x : Nat)) else pmV f i) = pmV (f.put j x) := by
  funext i
  unfold pmV Pm.put
  by_cases e : i = j
  · rw [if_pos e, if_pos e]; rfl
  · rw [if_neg e, if_neg e]
theorem seV_put {s : Nat → Bool} {j : Nat} : (fun i => if i = j then some (V.bl true) else seV s i) = seV fun x => s x || decide (x = j) := by
  funext i
  unfold seV
  by_cases e : i = j
  · rw [if_pos e, if_pos (by simp [e])]
  · rw [if_neg e]; simp [e]
/-- all else is as it was -/
def But3 (N L S : Addr) (H H' : Hp) : Prop := ∀ b o, H b = some o → b ≠ N → b ≠ L → b ≠ S → H' b = some o
theorem But3.refl (N L S : Addr) (H : Hp) : But3 N L S H H := fun _ _ e _ _ _ => e
theorem But3.trans {N L S : Addr} {H H1 H2 : Hp} (a : But3 N L S H H1) (b : But3 N L S H1 H2) : But3 N L S H H2 := fun c o e h1 h2 h3 => b c o (a c o e h1 h2 h3) h1 h2 h3
theorem But3.of_same {N L S : Addr} {H H' : Hp} (e : Same H H') : But3 N L S H H' := fun b o h _ _ _ => e b o h
/-- a pairing, as an object -/
structure PairO (K : PySem.W.Frag) (H : Hp) (P B N L dx : Addr) (n : Nat) (A : Nat → Nat → Bool) : Prop where
  at_ : H P = some (.ins (He.ga K "Pairing") dx [("its_behinds", .ref B), ("its_nexts", .ref N), ("its_lasts", .ref L)])
  bs : LsAt H B ((List.range n).map (behL A n))
  ne : N ≠ L
theorem PairO.but {H H' : Hp} {P B N L S dx : Addr} {n : Nat} {A : Nat → Nat → Bool} (h : PairO K H P B N L dx n A) (bt : But3 N L S H H')
    (hN : ∃ kvs, H N = some (.dK kvs)) (hL : ∃ kvs, H L = some (.dK kvs)) (hS : ∃ kvs, H S = some (.dK kvs)) : PairO K H' P B N L dx n A := by
  obtain ⟨kN, hN⟩ := hN
  obtain ⟨kL, hL⟩ := hL
  obtain ⟨kS, hS⟩ := hS
  obtain ⟨ps, b1, b2, b3⟩ := h.bs
  have key : ∀ b o, H b = some o → (∀ k, o ≠ .dK k) → H' b = some o := fun b o e h => bt b o e (ne_of e hN (h _)) (ne_of e hL (h _)) (ne_of e hS (h _))
  refine ⟨key _ _ h.at_ fun k z => HO.noConfusion z, ⟨ps, key _ _ b1 fun k z => HO.noConfusion z, fun p hp => key _ _ (b2 p hp) fun k z => ?_, b3⟩, h.ne⟩
  have : p.2 ∈ ((List.range n).map (behL A n)).map nO := by rw [← b3]; exact List.mem_map.mpr ⟨p, hp, rfl⟩
  obtain ⟨l, _, e⟩ := List.mem_map.mp this
  rw [z] at e
  exact HO.noConfusion e
/-- the dicts of a pairing -/
structure PairD (H : Hp) (N L : Addr) (n : Nat) (nx ls : Pm) : Prop where
  dn : DAt H N n (pmV nx)
  dl : DAt H L n (pmV ls)
def spImprove (K : PySem.W.Frag) (d : Nat) : Sp := fun vs H Q _ => ∃ (P B N L S dx : Addr) (n : Nat) (A : Nat → Nat → Bool) (nx ls : Pm) (seen : Nat → Bool) (i : Nat), vs = [.ref P, .int (i : Nat), .ref S] ∧ PairO K H P B N L dx n A ∧ PairD H N L n nx ls ∧ DAt H S n (seV seen) ∧ S ≠ N ∧ S ≠ L ∧ Pre A n i seen nx ls ∧ n ≤ 1000 ∧ n - cnt seen n < d ∧
  (∀ H' seen', PairO K H' P B N L dx n A → PairD H' N L n nx ls → DAt H' S n (seV seen') → But3 N L S H H' → ImpF A n i seen seen' ls → Q (.bl false) H') ∧
  ∀ H' nx' ls' seen', PairO K H' P B N L dx n A → PairD H' N L n nx' ls' → DAt H' S n (seV seen') → But3 N L S H H' → ImpT A n i seen nx ls nx' ls' → Q (.bl true) H'
theorem DAt.isD {H : Hp} {d : Addr} {n : Nat} {g : Nat → Option V} (h : DAt H d n g) : ∃ kvs, H d = some (.dK kvs) := let ⟨kvs, h1, _⟩ := h.ex; ⟨kvs, h1⟩
theorem But3.keep {N L S : Addr} {H H' : Hp} (bt : But3 N L S H H') (hN : ∃ kvs, H N = some (.dK kvs)) (hL : ∃ kvs, H L = some (.dK kvs)) (hS : ∃ kvs, H S = some (.dK kvs)) {b : Addr} {o : HO} (e : H b = some o) (h : ∀ k, o ≠ .dK k) : H' b = some o := by
  obtain ⟨kN, hN⟩ := hN
  obtain ⟨kL, hL⟩ := hL
  obtain ⟨kS, hS⟩ := hS
  exact bt b o e (ne_of e hN (h _)) (ne_of e hL (h _)) (ne_of e hS (h _))
theorem pmV_get {f : Pm} {j x : Nat} (h : f j = some x) : pmV f j = some (.int (x : Nat)) := by unfold pmV; rw [h]; rfl
/-- one more is seen -/
theorem see {H : Hp} {S : Addr} {n j : Nat} {sn : Nat → Bool} (h : DAt H S n (seV sn)) (hj : j < n) (hn : n ≤ 1000) : ∃ o, DPut H S (.int (j : Nat)) (.bl true) (upd H S o) ∧ DAt (upd H S o) S n (seV fun x => sn x || decide (x = j)) := by
  have b1000 : (1000 : Nat) < sizeLine := by decide
  have hc := cnt_le (fun x => (seV sn x).isSome) n
  obtain ⟨o, o1, o2⟩ := h.put hj (by omega) (.bl true) (by omega)
  rw [seV_put] at o2
  exact ⟨o, o1, o2⟩
theorem setpm {H : Hp} {N : Addr} {n i j : Nat} {f : Pm} (h : DAt H N n (pmV f)) (hi : i < n) (hn : n ≤ 1000) : ∃ o, DPut H N (.int (i : Nat)) (.int (j : Nat)) (upd H N o) ∧ DAt (upd H N o) N n (pmV (f.put i j)) := by
  have b1000 : (1000 : Nat) < sizeLine := by decide
  have hc := cnt_le (fun x => (pmV f x).isSome) n
  obtain ⟨o, o1, o2⟩ := h.put hi (by omega) (.int (j : Nat)) (by omega)
  rw [pmV_put] at o2
  exact ⟨o, o1, o2⟩
theorem But3.u1 {N L S : Addr} (H : Hp) (o : HO) : But3 N L S H (upd H N o) := fun b o' e h1 _ _ => by rw [upd_ne h1]; exact e
theorem But3.u2 {N L S : Addr} (H : Hp) (o : HO) : But3 N L S H (upd H L o) := fun b o' e _ h2 _ => by rw [upd_ne h2]; exact e
theorem But3.u3 {N L S : Addr} (H : Hp) (o : HO) : But3 N L S H (upd H S o) := fun b o' e _ _ h3 => by rw [upd_ne h3]; exact e
theorem asg2 (c : Cy w K mg base) {D : L2.Ends} {σ : L2.St} {H : Hp} {P B N L S dx : Addr} {n : Nat} {A : Nat → Nat → Bool} {nx ls : Pm} {sn : Nat → Bool} {i j : Nat} (h0 : σ[0]? = some (some (.ref P))) (h1 : σ[1]? = some (some (.int (i : Nat)))) (h3 : σ[3]? = some (some (.int (j : Nat))))
    (hP : PairO K H P B N L dx n A) (hD : PairD H N L n nx ls) (hS : DAt H S n (seV sn)) (sN : S ≠ N) (sL : S ≠ L) (hi : i < n) (hj : j < n) (hn : n ≤ 1000)
    (q : ∀ H', PairO K H' P B N L dx n A → PairD H' N L n (nx.put i j) (ls.put j i) → DAt H' S n (seV sn) → But3 N L S H H' → D.nx σ H') :
    tAsg (tTup (tCons (tVar 3) (tCons (tVar 1) tNil))) (gTup K 2 (gCons (gSub (tFld K (tVar 0) "its_nexts") (tVar 1) rSetD) (gCons (gSub (tFld K (tVar 0) "its_lasts") (tVar 3) rSetD) gNil))) D σ H := by
  refine ⟨_, h3, _, h1, by show 2 ≤ sizeLine; decide, fun T hT => ?_⟩
  have sT := same_upd (o := .tup [.int (j : Nat), .int (i : Nat)]) hT
  have eT : (upd H T (.tup [.int (j : Nat), .int (i : Nat)])) T = some (.tup [.int (j : Nat), .int (i : Nat)]) := upd_same
  have bT := But3.of_same (N := N) (L := L) (S := S) sT
  have hP1 := hP.but bT hD.dn.isD hD.dl.isD hS.isD
  have dn1 := hD.dn.same (sT _)
  have dl1 := hD.dl.same (sT _)
  have ds1 := hS.same (sT _)
  generalize upd H T (.tup [.int (j : Nat), .int (i : Nat)]) = H1 at sT eT bT hP1 dn1 dl1 ds1 ⊢
  obtain ⟨o, o1, dn2⟩ := setpm (j := j) dn1 hi hn
  have b2 := But3.u1 (N := N) (L := L) (S := S) H1 o
  have hP2 := hP1.but b2 dn1.isD dl1.isD ds1.isD
  have dl2 := dl1.same (H' := upd H1 N o) fun o' e => by rw [upd_ne (Ne.symm hP.ne)]; exact e
  have ds2 := ds1.same (H' := upd H1 N o) fun o' e => by rw [upd_ne sN]; exact e
  have b12 := bT.trans b2
  refine ⟨T, _, rfl, .inl (.inl eT), rfl, _, _, rfl, ⟨_, h0, P, _, dx, _, _, rfl, hP1.at_, c.c_Pairing, c.n_its_nexts, rfl, _, h1, N, _, rfl, o1, _, _, rfl, ⟨_, h0, P, _, dx, _, _, rfl, hP2.at_, c.c_Pairing, c.n_its_lasts, rfl, _, h3, L, ?_⟩⟩⟩
  generalize upd H1 N o = H2 at b2 hP2 dl2 ds2 b12 dn2 ⊢
  obtain ⟨o', o2, dl3⟩ := setpm (j := i) dl2 hj hn
  have b3 := But3.u2 (N := N) (L := L) (S := S) H2 o'
  refine ⟨_, rfl, o2, rfl, q _ (hP2.but b3 dn2.isD dl2.isD ds2.isD) ⟨dn2.same fun o'' e => by rw [upd_ne hP.ne]; exact e, dl3⟩ (ds2.same fun o'' e => by rw [upd_ne sL]; exact e) (b12.trans b3)⟩
theorem sc_Pairing_improve : FnScope ["self", "i", "seen", "j"] ["self", "i", "seen"] (defScope s_Pairing_improve) := ⟨rfl, rfl, rfl, by decide +kernel, rfl, by decide +kernel, by decide +kernel⟩
theorem ok_Pairing_improve (c : Cy w K mg base) : ∀ d, Dm PG w K mg base "Pairing" "improve" (d + 1) ["self", "i", "seen"] (spImprove K d)
  | 0 => by
    obtain ⟨fd, F⟩ := c.fd_Pairing_improve
    refine ⟨walkD F sc_Pairing_improve (fun vs H Q E h => ?_) (fun cdv A outer s H vs Q E hr h => ?_) fun _ _ _ _ _ _ us hl => match us, hl with | [_, _, _], _ => rfl, c.t_Pairing_improve, c.c_Pairing⟩
    · obtain ⟨_, _, _, _, _, _, _, _, _, _, _, _, _, _, _, _, _, _, _, _, h, _⟩ := h
      exact absurd h (Nat.not_lt_zero _)
    · obtain ⟨_, _, _, _, _, _, _, _, _, _, _, _, _, _, _, _, _, _, _, _, h, _⟩ := h
      exact absurd h (Nat.not_lt_zero _)
  | d + 1 => by
    obtain ⟨fd, F⟩ := c.fd_Pairing_improve
    have D_Pairing_improve := ok_Pairing_improve c d
    refine ⟨walkD F sc_Pairing_improve (fun vs H Q E h => ?_) (fun cdv A outer s H vs Q E hr h => ?_) fun _ _ _ _ _ _ us hl => match us, hl with | [_, _, _], _ => rfl, c.t_Pairing_improve, c.c_Pairing⟩
    · obtain ⟨_, _, _, _, _, _, _, _, _, _, _, _, rfl, _⟩ := h
      rfl
    · obtain ⟨P, B, N, L, S, dx, n, A, nx, ls, seen, i, rfl, hP, hD, hS, sN, sL, pre, hn, hd, qf, qt⟩ := h
      have hu := hu_of hr
      refine ⟨_, (pss_cons (ps_for PassesOwn.never rfl (pi_list_k (K0 := K) (by rfl) (pe_ix (ix_list_k (K0 := K) (by rfl)) (pe_fld_k (K0 := K) (by rfl) (pv 0)) (pv 1) (fun _ _ => rfl))) (pg_name (i := 3) sc_Pairing_improve.nd rfl (by first | exact Or.inl rfl | exact Or.inr rfl)) (pss_one (ps_if (pt_cmp (pc_dnotin hu (pv 3) (pv 2))) (pss_cons (ps_dput hu (pv 2) (pv 3) pe_bl rfl)
      (pss_one (ps_if (PW.pt (pw_or (pt_cmp (pc_dnotin hu (pv 3) (pe_fld_k (K0 := K) (by rfl) (pv 0)))) (pw_or1 (pt_val (Dm.call (K0 := K) (by rfl) D_Pairing_improve (hr.mono (Nat.le_refl _)) (pv 0) (pa_cons (pe_dget hu (pe_fld_k (K0 := K) (by rfl) (pv 0)) (pv 3) (fun _ _ => rfl)) (pa_cons (pv 2) pa_nil))))))) (pss_cons (ps_asg (pe_tup (pa_cons (pv 3) (pa_cons (pv 1) pa_nil))) (pg_tup_k (K0 := K) (n := 2) (by rfl) (by rfl) (pgs_cons (pg_sub (pe_fld_k (K0 := K) (by rfl) (pv 0)) (pv 1) (set_dict hu)) (pgs_cons (pg_sub (pe_fld_k (K0 := K) (by rfl) (pv 0)) (pv 3) (set_dict hu)) pgs_nil))))
      (pss_one (ps_ret pe_bl))) pss_nil))) pss_nil)))
      (pss_one (ps_ret pe_bl))), ?_⟩
      obtain ⟨ps, b1, b2, b3⟩ := hP.bs
      have lps : ps.length = n := by simpa using congrArg List.length b3
      have hi := pre.lt
      obtain ⟨b, hb⟩ : ∃ b, ps[i]? = some b := ⟨_, List.getElem?_eq_getElem (by omega)⟩
      have hb2 : b.2 = nO (behL A n i) := by
        have := congrArg (·[i]?) b3
        simp only [List.getElem?_map, hb, rangeget hi] at this
        simpa using this
      have hvb : ps.vs[i]? = some (.ref b.1) := by rw [List.getElem?_map, hb]; rfl
      have hb3 : H b.1 = some (nO (behL A n i)) := by rw [← hb2]; exact b2 b (List.mem_of_getElem? hb)
      refine ⟨_, rfl, P, _, dx, _, _, rfl, hP.at_, c.c_Pairing, c.n_its_behinds, rfl, _, rfl, B, _, _, _, rfl, rfl, .inl (.inl b1), atI_nat hvb, b.1, rfl, ⟨_, .inl (.inl hb3)⟩, ?_⟩
      refine for_list (D := { nx := tRet (tC (.bl false)) { nx := fun _ H' => Q .non H', rt := Q }, rt := Q }) (xs := nv (behL A n i)) (fun t σ H' => ∃ x3 sn, σ = [some (.ref P), some (.int (i : Nat)), some (.ref S), x3] ∧ PairO K H' P B N L dx n A ∧ PairD H' N L n nx ls ∧ DAt H' S n (seV sn) ∧ But3 N L S H H' ∧ ImpL A n seen sn ls ∧ ∀ k j, k < t → (behL A n i)[k]? = some j → sn j = true) ?_ ?_ ?_ ?_
      · exact ⟨_, seen, rfl, hP, hD, hS, But3.refl _ _ _ _, ImpL.nil, fun _ _ h => absurd h (Nat.not_lt_zero _)⟩
      · rintro t σ H' _ ⟨x3, sn, rfl, p, d, s, bt, _⟩
        exact .inl (.inl (bt.keep hD.dn.isD hD.dl.isD hS.isD hb3 fun k z => by cases z))
      · rintro t x σ H' hx ⟨x3, sn, rfl, hP', hD', hS', bt, im, tr⟩
        obtain ⟨j, hj, rfl⟩ : ∃ j, (behL A n i)[t]? = some j ∧ V.int (j : Nat) = x := by rw [List.getElem?_map] at hx; exact Option.map_eq_some_iff.mp hx
        obtain ⟨jn, ja⟩ := behL_mem.mp (List.mem_of_getElem? hj)
        refine ⟨_, rfl, _, rfl, S, _, rfl, hS'.get j, _, rfl, ?_⟩
        show if (!(seV sn j).isSome) = true then _ else _
        rw [seV_some]
        refine iteB (fun hs => ?_) (fun hs => ?_)
        · replace hs : sn j = false := by simpa using hs
          obtain ⟨o, o1, hS5⟩ := see hS' jn hn
          have bt5 := bt.trans (But3.u3 (N := N) (L := L) (S := S) H' o)
          have hP5 := hP'.but (But3.u3 (N := N) (L := L) (S := S) H' o) hD'.dn.isD hD'.dl.isD hS'.isD
          have hD5 : PairD (upd H' S o) N L n nx ls := ⟨hD'.dn.same fun o' e => by rw [upd_ne (Ne.symm sN)]; exact e, hD'.dl.same fun o' e => by rw [upd_ne (Ne.symm sL)]; exact e⟩
          refine ⟨_, rfl, _, rfl, S, _, rfl, o1, ?_⟩
          generalize upd H' S o = H5 at hS5 bt5 hP5 hD5 ⊢
          refine ⟨_, rfl, ⟨_, rfl, P, _, dx, _, _, rfl, hP5.at_, c.c_Pairing, c.n_its_lasts, rfl, L, _, rfl, hD5.dl.get j, _, rfl, ?_⟩⟩
          show if (!(pmV ls j).isSome) = true then _ else _
          rw [pmV_some]
          refine iteB (fun hl => ?_) (fun hl => ?_)
          · have hl' : ls j = none := by cases e : ls j with | none => rfl | some y => rw [e] at hl; cases hl
            refine iteT (asg2 c rfl rfl rfl hP5 hD5 hS5 sN sL hi jn hn fun H6 p6 d6 s6 b6 => ?_)
            exact qt H6 _ _ _ p6 d6 s6 (bt5.trans b6) (imp_free pre jn ja (by cases e : seen j with | false => rfl | true => rw [im.sub j e] at hs; cases hs) hl')
          · obtain ⟨i', hl'⟩ : ∃ i', ls j = some i' := by cases e : ls j with | none => rw [e] at hl; cases hl | some y => exact ⟨y, rfl⟩
            have hg := hD5.dl.get j
            rw [pmV_get hl'] at hg
            refine ⟨_, rfl, P, dx, _, rfl, hP5.at_, rfl, ⟨_, rfl, P, _, dx, _, _, rfl, hP5.at_, c.c_Pairing, c.n_its_lasts, rfl, _, rfl, L, _, rfl, hg, _, rfl, ?_⟩⟩
            have c1 := cnt_mono (n := n) fun x (_ : x < n) => im.sub x
            have c2 := cnt_add (S := sn) (a := j) hs (n := n)
            rw [if_pos jn] at c2
            have c3 := cnt_le (fun x => sn x || decide (x = j)) n
            have c4 : n - cnt seen n < d + 1 := hd
            have c5 : cnt seen n ≤ cnt sn n := c1
            refine ⟨P, B, N, L, S, dx, n, A, nx, ls, _, i', rfl, hP5, hD5, hS5, sN, sL, pre.deep hl', hn, by omega, fun H7 sn7 p7 d7 s7 bt7 F7 => ?_, fun H7 nx7 ls7 sn7 p7 d7 s7 bt7 T7 => ?_⟩
            · refine ⟨_, rfl, iteF ?_⟩
              obtain ⟨m1, m2, m3⟩ := im.step hs hl' F7
              refine ⟨_, sn7, rfl, p7, d7, s7, bt5.trans bt7, m1, fun k y hk hy => ?_⟩
              by_cases e : k = t
              · rw [e, hj] at hy
                injection hy with hy
                rw [← hy]; exact m2
              · exact m3 y (tr k y (by omega) hy)
            · refine ⟨_, rfl, iteT (asg2 c rfl rfl rfl p7 d7 s7 sN sL hi jn hn fun H8 p8 d8 s8 b8 => ?_)⟩
              exact qt H8 _ _ _ p8 d8 s8 ((bt5.trans bt7).trans b8) (imp_deep pre im.sub jn ja hs hl' T7)
        · replace hs : sn j = true := by simpa using hs
          refine ⟨_, sn, rfl, hP', hD', hS', bt, im, fun k y hk hy => ?_⟩
          by_cases e : k = t
          · rw [e, hj] at hy
            injection hy with hy
            rw [← hy]; exact hs
          · exact tr k y (by omega) hy
      · rintro σ H' ⟨x3, sn, rfl, hP', hD', hS', bt, im, tr⟩
        refine qf H' sn hP' hD' hS' bt (im.toF fun j hj a => ?_)
        obtain ⟨k, hk, e⟩ := List.mem_iff_getElem.mp (behL_mem.mpr ⟨hj, a⟩)
        exact tr k j (by rw [List.length_map]; exact hk) (by rw [← e]; exact List.getElem?_eq_getElem hk)
end
end Bw
end
section
set_option Elab.async false
set_option linter.all false
set_option maxRecDepth 100000
set_option maxHeartbeats 4000000
namespace Bw
open PySem PySem.Spec PyProof.Rows L2
/-- a dict comprehension over a walk -/
theorem dc_it {J : It} {n : Nat} {G : Hp → Prop} {Y : Nat → Hp → V → Hp → Prop} (w : Walk J n G Y) {g : TG} {tt : TT} {tk tv : TE} {vs : List Nat} {σ : L2.St} {H1 : Hp} {D : Addr} {Qd : Hp → Prop} (Pv : Nat → Hp → Prop) (h0 : Pv 0 (upd H1 D (.dK []))) (hG : ∀ i H, i ≤ n → Pv i H → G H)
    (hs : ∀ i x H H', i < n → Pv i H → Y i H x H' → g x (wipe σ vs) H' fun σ2 H2 => wipe σ2 vs = wipe σ vs ∧ tt σ2 H2 fun b H3 =>
      if b = true then tk σ2 H3 fun y H4 => tv σ2 H4 fun z H5 => ∃ kvs k, y = kV k ∧ H5 D = some (.dK kvs) ∧ kvs.length < sizeLine ∧ Pv (i + 1) (upd H5 D (.dK (putK kvs k z))) else Pv (i + 1) H3) (hd : ∀ H, Pv n H → Qd H) :
    ∃ W : Nat → Nat → Hp → Prop, (∃ m, W 0 m (upd H1 D (.dK []))) ∧ ∀ i m H, W i m H →
      (J.stop i H ∧ Qd H) ∨ (J.go i H ∧ ∃ Nx : Hp → Prop, (∀ H', Nx H' → ∃ m', m' < m ∧ W (i + 1) m' H') ∧ ∀ x H', J.yld i H x H' → g x (wipe σ vs) H' fun σ2 H2 => wipe σ2 vs = wipe σ vs ∧ tt σ2 H2 fun b H3 =>
        if b = true then tk σ2 H3 fun y H4 => tv σ2 H4 fun z H5 => ∃ kvs k, y = kV k ∧ H5 D = some (.dK kvs) ∧ kvs.length < sizeLine ∧ Nx (upd H5 D (.dK (putK kvs k z))) else Nx H3) := by
  refine ⟨fun i m H => m = n - i ∧ i ≤ n ∧ Pv i H, ⟨n, by simp, Nat.zero_le _, h0⟩, ?_⟩
  rintro i m H ⟨rfl, hi, p⟩
  have q := hG i H hi p
  by_cases hlt : i < n
  · exact .inr ⟨w.goes i H hlt q, Pv (i + 1), fun H' p' => ⟨n - (i + 1), by omega, rfl, hlt, p'⟩, fun x H' y => hs i x H H' hlt p (w.yields i H x H' hlt q y)⟩
  · have e : i = n := by omega
    subst e
    exact .inl ⟨w.stops H q, hd H p⟩
theorem DAt.put' {H : Hp} {d : Addr} {n : Nat} {g : Nat → Option V} (h : DAt H d n g) {j : Nat} (hj : j < n) (v : V) (hn : n < sizeLine) :
    ∃ kvs : List (Key × V), H d = some (.dK kvs) ∧ kvs.length < sizeLine ∧ DAt (upd H d (.dK (putK kvs (.inl (j : Int)) v))) d n fun i => if i = j then some v else g i := by
  obtain ⟨kvs, h1, h2, h3⟩ := h.ex
  have hc := cnt_le (fun i => (g i).isSome) n
  refine ⟨kvs, h1, by omega, ⟨_, upd_same, ?_, fun i => ?_⟩, fun i hi => ?_⟩
  · rw [length_putK_has, cnt_put hj, h3, h2]
  · rw [valV_put, h3]
    by_cases e : i = j
    · rw [if_pos (by rw [e]), if_pos e]
    · rw [if_neg (fun z => e (by injection z with z; omega)), if_neg e]
  · by_cases e : i = j
    · rw [e]; exact hj
    · exact h.dom i (by simpa [e] using hi)
section
variable {w : World} {K : PySem.W.Frag} {mg : Str → Option Value} {base : Heap}
theorem PairO.same {H H' : Hp} {P B N L dx : Addr} {n : Nat} {A : Nat → Nat → Bool} (h : PairO K H P B N L dx n A) (e : Same H H') : PairO K H' P B N L dx n A := ⟨e _ _ h.at_, h.bs.same e, h.ne⟩
theorem PairD.same {H H' : Hp} {N L : Addr} {n : Nat} {nx ls : Pm} (h : PairD H N L n nx ls) (e : Same H H') : PairD H' N L n nx ls := ⟨h.dn.same (e _), h.dl.same (e _)⟩
def spPairInit (K : PySem.W.Frag) : Sp := fun vs H Q _ => ∃ (p a dx : Addr) (n : Nat) (A : Nat → Nat → Bool), vs = [.ref p, .ref a] ∧ H p = some (.ins (He.ga K "Pairing") dx []) ∧ LsAt H a ((List.range n).map (behL A n)) ∧ n ≤ 9 ∧
  ∀ H' N L nx ls, PairO K H' p a N L dx n A → PairD H' N L n nx ls → Tried A n n nx ls → (∀ b o, H b = some o → b ≠ p → H' b = some o) → Q .non H'
theorem sc_Pairing_init : FnScope ["self", "behinds", "i"] ["self", "behinds"] (defScope s_Pairing_init) := ⟨rfl, rfl, rfl, by decide +kernel, rfl, by decide +kernel, by decide +kernel⟩
theorem ok_Pairing_init (c : Cy w K mg base) : Di PG w K mg base "Pairing" 12 ["self", "behinds"] (spPairInit K) := by
  obtain ⟨fd, F⟩ := c.fd_Pairing_init
  have D_Pairing_improve := ok_Pairing_improve c 10
  refine ⟨walkD F sc_Pairing_init (fun vs H Q E h => ?_) (fun cdv A outer s H vs Q E hr h => ?_) fun _ _ _ _ _ _ us hl => match us, hl with | [_, _], _ => rfl, c.k_Pairing, c.m_Pairing⟩
  · obtain ⟨a, b, _, _, _, rfl, _⟩ := h
    rfl
  · obtain ⟨p, a, dx, n, A, rfl, hp, hL, hn, Qk⟩ := h
    refine ⟨_, (pss_cons (ps_fld_k (K0 := K) (by rfl) (pv 0) (pv 1) rfl)
      (pss_cons (ps_asg (pe_tup (pa_cons pe_dnewK (pa_cons pe_dnewK pa_nil))) (pg_tup_k (K0 := K) (n := 2) (by rfl) (by rfl) (pgs_cons (pg_fld_k (K0 := K) (by rfl) (pv 0)) (pgs_cons (pg_fld_k (K0 := K) (by rfl) (pv 0)) pgs_nil))))
      (pss_one (ps_for PassesOwn.never rfl (pi_range1 (by rfl) c.f_range (pa_cons (pe_callB (call_len_seq_k (K0 := K) (by rfl)) (by rfl) c.f_len PySem.boot_len (pa_cons (pv 1) pa_nil)) pa_nil)) (pg_name (i := 2) sc_Pairing_init.nd rfl (by first | exact Or.inl rfl | exact Or.inr rfl)) (pss_one (ps_expr (Dm.call (K0 := K) (by rfl) D_Pairing_improve (hr.mono (by decide)) (pv 0) (pa_cons (pv 2) (pa_cons pe_dnewK pa_nil))))))))), ?_⟩
    refine ⟨_, rfl, _, rfl, p, _, dx, _, rfl, hp, c.c_Pairing, c.n_its_behinds, (by show 0 < 1000; decide), ?_⟩
    have p1 : (upd H p (.ins (He.ga K "Pairing") dx (putF "its_behinds" (.ref a) []))) p = some (.ins (He.ga K "Pairing") dx [("its_behinds", .ref a)]) := upd_same
    have b1 : ∀ b o, H b = some o → b ≠ p → (upd H p (.ins (He.ga K "Pairing") dx (putF "its_behinds" (.ref a) []))) b = some o := fun b o e h => by rw [upd_ne h]; exact e
    generalize upd H p (.ins (He.ga K "Pairing") dx (putF "its_behinds" (.ref a) [])) = H1 at p1 b1 ⊢
    refine fun N hN L hL' => ⟨by show 2 ≤ sizeLine; decide, fun T hT => ?_⟩
    have sN := same_upd (o := .dK []) hN
    have n2 : (upd H1 N (.dK [])) N = some (.dK []) := upd_same
    generalize upd H1 N (.dK []) = H2 at sN n2 hL' hT ⊢
    have sL := same_upd (o := .dK []) hL'
    have l3 : (upd H2 L (.dK [])) L = some (.dK []) := upd_same
    generalize upd H2 L (.dK []) = H3 at sL l3 hT ⊢
    have sT := same_upd (o := .tup [.ref N, .ref L]) hT
    have t4 : (upd H3 T (.tup [.ref N, .ref L])) T = some (.tup [.ref N, .ref L]) := upd_same
    generalize upd H3 T (.tup [.ref N, .ref L]) = H4 at sT t4 ⊢
    have s14 := (sN.trans sL).trans sT
    have p4 := s14 _ _ p1
    have n4 := sT _ _ (sL _ _ n2)
    have l4 := sT _ _ l3
    have neNL : N ≠ L := ne_of_none n2 hL'
    refine ⟨T, _, rfl, .inl (.inl t4), rfl, _, _, rfl, _, rfl, p, _, dx, _, rfl, p4, c.c_Pairing, c.n_its_nexts, (by show 1 < 1000; decide), ?_⟩
    refine ⟨_, _, rfl, _, rfl, p, _, dx, _, rfl, upd_same, c.c_Pairing, c.n_its_lasts, (by show 2 < 1000; decide), rfl, ?_⟩
    have npN : N ≠ p := fun e => by rw [e] at n4; rw [n4] at p4; cases p4
    have npL : L ≠ p := fun e => by rw [e] at l4; rw [l4] at p4; cases p4
    have e5 : ∀ (o o' : HO) b, b ≠ p → (upd (upd H4 p o) p o') b = H4 b := fun o o' b h => by rw [upd_ne h, upd_ne h]
    have bt5 : ∀ b o, H b = some o → b ≠ p → (upd (upd H4 p (.ins (He.ga K "Pairing") dx (putF "its_nexts" (.ref N) [("its_behinds", .ref a)]))) p (.ins (He.ga K "Pairing") dx (putF "its_lasts" (.ref L) (putF "its_nexts" (.ref N) [("its_behinds", .ref a)])))) b = some o := fun b o e h => by
      rw [e5 _ _ _ h]; exact s14 _ _ (b1 b o e h)
    have hO : PairO K (upd (upd H4 p (.ins (He.ga K "Pairing") dx (putF "its_nexts" (.ref N) [("its_behinds", .ref a)]))) p (.ins (He.ga K "Pairing") dx (putF "its_lasts" (.ref L) (putF "its_nexts" (.ref N) [("its_behinds", .ref a)])))) p a N L dx n A := by
      obtain ⟨ps, a1, a2, a3⟩ := hL
      refine ⟨upd_same, ⟨ps, bt5 _ _ a1 (ne_of a1 hp (by intro z; cases z)), fun q hq => bt5 _ _ (a2 q hq) (ne_of (a2 q hq) hp ?_), a3⟩, neNL⟩
      have : q.2 ∈ ((List.range n).map (behL A n)).map nO := by rw [← a3]; exact List.mem_map.mpr ⟨q, hq, rfl⟩
      obtain ⟨l, _, e⟩ := List.mem_map.mp this
      rw [← e]
      intro z; cases z
    have hD : PairD (upd (upd H4 p (.ins (He.ga K "Pairing") dx (putF "its_nexts" (.ref N) [("its_behinds", .ref a)]))) p (.ins (He.ga K "Pairing") dx (putF "its_lasts" (.ref L) (putF "its_nexts" (.ref N) [("its_behinds", .ref a)])))) N L n (fun _ => none) fun _ => none :=
      ⟨DAt.nil (by rw [e5 _ _ _ npN]; exact n4), DAt.nil (by rw [e5 _ _ _ npL]; exact l4)⟩
    generalize upd (upd H4 p (.ins (He.ga K "Pairing") dx (putF "its_nexts" (.ref N) [("its_behinds", .ref a)]))) p (.ins (He.ga K "Pairing") dx (putF "its_lasts" (.ref L) (putF "its_nexts" (.ref N) [("its_behinds", .ref a)]))) = H5 at bt5 hO hD ⊢
    obtain ⟨ps, a1, a2, a3⟩ := hO.bs
    have lps : ps.length = n := by simpa using congrArg List.length a3
    refine ⟨_, rfl, a, _, rfl, .inl (.inl (.inl a1)), ((n : Nat) : Int), by rw [List.length_map, lps], by omega, by omega, ?_⟩
    rw [Int.toNat_natCast]
    refine for_range (D := { nx := fun _ H' => Q .non H', rt := Q }) (lo := 0) (n := n) (fun t σ H' => ∃ x2 nx ls, σ = [some (.ref p), some (.ref a), x2] ∧ PairO K H' p a N L dx n A ∧ PairD H' N L n nx ls ∧ Tried A n t nx ls ∧ But3 N L L H5 H') ?_ ?_ ?_
    · exact ⟨_, _, _, rfl, hO, hD, Tried.start, But3.refl _ _ _ _⟩
    · rintro t σ H' ht ⟨x2, nx, ls, rfl, pO, pD, tr, bt⟩
      rw [Int.zero_add]
      refine ⟨_, rfl, p, dx, _, rfl, pO.at_, rfl, _, rfl, fun S hS => ?_⟩
      have sS := same_upd (o := .dK []) hS
      have s0 : (upd H' S (.dK [])) S = some (.dK []) := upd_same
      have pO1 := pO.same sS
      have pD1 := pD.same sS
      generalize upd H' S (.dK []) = H6 at sS s0 pO1 pD1 ⊢
      have nSN : S ≠ N := fun e => by obtain ⟨kvs, h⟩ := pD.dn.isD; rw [e, h] at hS; cases hS
      have nSL : S ≠ L := fun e => by obtain ⟨kvs, h⟩ := pD.dl.isD; rw [e, h] at hS; cases hS
      have dS : DAt H6 S n (seV fun _ => false) := DAt.nil s0
      have hc := cnt_le (fun _ : Nat => false) n
      have out : ∀ H7, But3 N L S H6 H7 → But3 N L L H5 H7 := fun H7 b => bt.trans fun x o e h1 h2 _ => b x o (sS _ _ e) h1 h2 (ne_of_none e hS)
      refine ⟨p, a, N, L, S, dx, n, A, nx, ls, fun _ => false, t, rfl, pO1, pD1, dS, nSN, nSL, ⟨tr.mt, ht, fun j hj => by rw [tr.new t (Nat.le_refl _)] at hj; cases hj⟩, by omega, by omega, fun H7 sn o7 d7 s7 b7 f7 => ?_, fun H7 nx7 ls7 sn o7 d7 s7 b7 t7 => ?_⟩
      · exact ⟨_, nx, ls, rfl, o7, d7, tr.no f7, out H7 b7⟩
      · exact ⟨_, nx7, ls7, rfl, o7, d7, tr.yes t7, out H7 b7⟩
    · rintro σ H' ⟨x2, nx, ls, rfl, pO, pD, tr, bt⟩
      refine Qk H' N L nx ls pO pD tr fun b o e h => bt b o (bt5 b o e h) ?_ ?_ ?_
      · exact fun z => by rw [z] at e; have := s14 _ _ (b1 _ _ e npN); have := b1 _ _ e npN; rw [hN] at this; cases this
      all_goals exact fun z => by rw [z] at e; have := sN _ _ (b1 _ _ e npL); rw [hL'] at this; cases this
end
end Bw
end
section
set_option Elab.async false
set_option linter.all false
set_option maxRecDepth 100000
set_option maxHeartbeats 4000000
namespace Bw
open PySem PySem.Spec PyProof.Rows L2
section
variable {w : World} {K : PySem.W.Frag} {mg : Str → Option Value} {base : Heap}
def spReached (K : PySem.W.Frag) : Sp := fun vs H Q _ => ∃ (P B N L dx : Addr) (n : Nat) (A : Nat → Nat → Bool) (nx ls : Pm) (D T : Nat → Bool), vs = [.ref P] ∧ PairO K H P B N L dx n A ∧ PairD H N L n nx ls ∧ Mt A n nx ls ∧ Closed A n ls D T ∧ (∀ i, i < n → nx i = none → D i = true) ∧ n ≤ 1000 ∧
  ∀ H' R a b ah be, H' R = some (.tup [.ref a, .ref b]) → DAt H' a n (seV ah) → DAt H' b n (seV be) → Reach A n nx ls D T ah be (fun _ => False) → Same H H' → Q (.ref R) H'
theorem seV_funext {s t : Nat → Bool} (h : ∀ x, s x = t x) : seV s = seV t := by rw [funext h]
theorem sc_Pairing_reached : FnScope ["self", "waiting", "ahead", "behind", "j", "i"] ["self"] (defScope s_Pairing_reached) := ⟨rfl, rfl, rfl, by decide +kernel, rfl, by decide +kernel, by decide +kernel⟩
theorem ok_Pairing_reached (c : Cy w K mg base) : Dm PG w K mg base "Pairing" "reached" 1 ["self"] (spReached K) := by
  obtain ⟨fd, F⟩ := c.fd_Pairing_reached
  refine ⟨walkD F sc_Pairing_reached (fun vs H Q E h => ?_) (fun cdv A outer s H vs Q E hr h => ?_) fun _ _ _ _ _ _ us hl => match us, hl with | [_], _ => rfl, c.t_Pairing_reached, c.c_Pairing⟩
  · obtain ⟨_, _, _, _, _, _, _, _, _, _, _, rfl, _⟩ := h
    rfl
  · obtain ⟨P, B, N, L, dx, n, A, nx, ls, D, T, rfl, hP, hD, hM, hC, hfree, hn, Qk⟩ := h
    have hu := hu_of hr
    have b1000 : (1000 : Nat) < sizeLine := by decide
    refine ⟨_, (pss_cons (ps_setLc (i := 1) rfl sc_Pairing_reached.nd rfl rfl (sw_true rfl rfl rfl (by decide +kernel)) (pi_range1 (by rfl) c.f_range (pa_cons (pe_callB (call_len_seq_k (K0 := K) (by rfl)) (by rfl) c.f_len PySem.boot_len (pa_cons (pe_fld_k (K0 := K) (by rfl) (pv 0)) pa_nil)) pa_nil)) (blkOk_by (own := [("i", 5)]) (by show blkC ["self", "waiting", "ahead", "behind", "j", "i"] (defScope s_Pairing_reached) _ _ = true; decide +kernel)) (fun _ _ _ _ _ => (pg_name (i := 5) sc_Pairing_reached.nd rfl (by first | exact Or.inl rfl | exact Or.inr rfl))) (fun _ _ _ _ _ => (pts_one (pt_cmp (pc_dnotin hu (pv 5) (pe_fld_k (K0 := K) (by rfl) (pv 0)))))) (fun _ _ _ _ _ => (pv 5)))
      (pss_cons (ps_par (i := 2) (j := 3) (by rfl) sc_Pairing_reached.nd rfl rfl (by decide) rfl rfl (pa_cons (pe_dc rfl sc_Pairing_reached.nd (pi_list_k (K0 := K) (by rfl) (pv 1)) (blkOk_by (own := [("i", 5)]) (by show blkC ["self", "waiting", "ahead", "behind", "j", "i"] (defScope s_Pairing_reached) _ _ = true; decide +kernel)) (fun _ _ _ _ _ => (pg_name (i := 5) sc_Pairing_reached.nd rfl (by first | exact Or.inl rfl | exact Or.inr rfl))) (fun _ _ _ _ _ => pts_nil) (fun _ _ _ _ _ => (pv 5)) (fun _ _ _ _ _ => pe_bl)) (pa_cons pe_dnewK pa_nil)) (by rfl))
      (pss_cons (ps_while PassesOwn.never (pt_cmpR (op_neNil_k (K0 := K) (by rfl) hu) (pv 1) (pe_lst pa_nil) (nomark _)) (pss_one (ps_for PassesOwn.never rfl (pi_list_k (K0 := K) (by rfl) (pe_ix (ix_list_k (K0 := K) (by rfl)) (pe_fld_k (K0 := K) (by rfl) (pv 0)) (pe_bm0_k (K0 := K) (by rfl) PySem.F.plainAttrs_list PySem.F.slot_list_pop PySem.F.type_list_pop mt_pop (pv 1)) (fun _ _ => rfl))) (pg_name (i := 4) sc_Pairing_reached.nd rfl (by first | exact Or.inl rfl | exact Or.inr rfl)) (pss_one (ps_if (pt_cmp (pc_dnotin hu (pv 4) (pv 3))) (pss_cons (ps_dput hu (pv 3) (pv 4) pe_bl rfl)
      (pss_one (ps_if (pt_cmp (pc_dnotin hu (pe_dget hu (pe_fld_k (K0 := K) (by rfl) (pv 0)) (pv 4) (fun _ _ => rfl)) (pv 2))) (pss_cons (ps_dput hu (pv 2) (pe_dget hu (pe_fld_k (K0 := K) (by rfl) (pv 0)) (pv 4) (fun _ _ => rfl)) pe_bl rfl)
      (pss_one (ps_expr (pe_bm_k (K0 := K) (by rfl) PySem.F.plainAttrs_list PySem.F.slot_list_append PySem.F.type_list_append mt_append (pv 1) (pa_cons (pe_dget hu (pe_fld_k (K0 := K) (by rfl) (pv 0)) (pv 4) (fun _ _ => rfl)) pa_nil))))) pss_nil))) pss_nil)))))
      (pss_one (ps_ret (pe_tup (pa_cons (pv 2) (pa_cons (pv 3) pa_nil)))))))), ?_⟩
    obtain ⟨ps, b1, b2, b3⟩ := hP.bs
    have lps : ps.length = n := by simpa using congrArg List.length b3
    refine ⟨_, rfl, P, _, dx, _, _, rfl, hP.at_, c.c_Pairing, c.n_its_behinds, rfl, B, _, rfl, .inl (.inl (.inl b1)), ((n : Nat) : Int), by rw [List.length_map, lps], by omega, by omega, fun W0 hW0 => ?_⟩
    rw [Int.toNat_natCast]
    refine lc_accR (lo := 0) (n := n) (accF (List.range n) (fun i => (nx i).isNone) fun i => V.int (i : Nat)) (by omega) hW0 rfl (fun i H2 hi s2 _ K1 K0 k1 k0 => ?_) fun H2 s2 e2 => ?_
    · refine ⟨rfl, _, rfl, ⟨_, rfl, P, _, dx, _, _, rfl, (hP.same s2).at_, c.c_Pairing, c.n_its_nexts, rfl, N, pmV nx i, rfl, ?_, _, rfl, ?_⟩⟩
      · rw [Int.zero_add]; exact (hD.same s2).dn.get i
      · show if (!(pmV nx i).isSome) = true then _ else _
        rw [pmV_some]
        refine iteN (fun h => ?_) (fun h => ?_)
        · refine ⟨_, rfl, k1 _ _ (Same.refl _) ?_⟩
          rw [Int.zero_add]
          exact accF_yes (rangeget hi) (by cases e : nx i with | none => rfl | some _ => rw [e] at h; cases h)
        · exact k0 _ (Same.refl _) (accF_no (rangeget hi) (by cases e : nx i with | none => rw [e] at h; cases h | some _ => rfl))
    rw [accF_all (List.length_range).symm] at e2
    generalize hwl : ((List.range n).filter fun i => (nx i).isNone) = wl at e2
    have mwl : ∀ i, i ∈ wl ↔ i < n ∧ nx i = none := fun i => by rw [← hwl, List.mem_filter, List.mem_range, Option.isNone_iff_eq_none]
    have lwl : wl.length = cnt (fun i => (nx i).isNone) n := by rw [← hwl]; exact cnt_filter _ _
    replace e2 : H2 W0 = some (nO wl) := e2
    refine ⟨_, rfl, W0, rfl, ⟨_, .inl (.inl e2)⟩, fun a ha => ?_⟩
    have sa := same_upd (o := .dK []) ha
    refine dc_it (walk_list (K := K) (a := W0) (xs := nv wl)) (fun t H3 => Same H2 H3 ∧ DAt H3 a n (seV fun x => (wl.take t).contains x)) ⟨sa, DAt.nil upd_same⟩ (fun t H3 _ h => .inl (.inl (h.1 _ _ e2))) (fun t x H3 H3' ht ⟨s3, d3⟩ hx => ?_) fun H3 ⟨s3, d3⟩ => ?_
    · obtain ⟨rfl, hx⟩ := hx
      obtain ⟨j, hj, rfl⟩ : ∃ j, wl[t]? = some j ∧ V.int (j : Nat) = x := by rw [List.getElem?_map] at hx; exact Option.map_eq_some_iff.mp hx
      obtain ⟨kvs, k1, k2, k3⟩ := d3.put' ((mwl j).mp (List.mem_of_getElem? hj)).1 (.bl true) (by omega)
      refine ⟨rfl, _, rfl, kvs, .inl (j : Int), rfl, k1, k2, fun b o e => ?_, ?_⟩
      · rw [upd_ne (ne_of_none e ha)]; exact s3 _ _ e
      · rw [seV_put] at k3
        rw [seV_funext (t := fun x => (wl.take t).contains x || decide (x = j)) fun x => ?_]
        · exact k3
        · rw [List.take_add_one, hj]
          simp [List.contains_eq_mem]
    have len3 : (nv wl).length = wl.length := List.length_map ..
    rw [len3, List.take_length] at d3
    have ah0 : (fun x => wl.contains x) = fun i => decide (i < n) && (nx i).isNone := by
      funext x
      rw [Bool.eq_iff_iff, List.contains_iff_mem, mwl, Bool.and_eq_true, decide_eq_true_eq, Option.isNone_iff_eq_none]
    rw [ah0] at d3
    refine fun b hb => ⟨_, _, rfl, ?_⟩
    have sb := same_upd (o := .dK []) hb
    have db : DAt (upd H3 b (.dK [])) b n (seV fun _ => false) := DAt.nil upd_same
    have da := d3.same (sb _)
    have e4 := sb _ _ (s3 _ _ e2)
    have hneab : a ≠ b := by obtain ⟨kvs, h⟩ := d3.isD; exact ne_of_none h hb
    have hneWa : W0 ≠ a := ne_of_none e2 ha
    have hneWb : W0 ≠ b := ne_of_none (s3 _ _ e2) hb
    have s4 : Same H (upd H3 b (.dK [])) := (s2.trans s3).trans sb
    have nW : H W0 = none := hW0
    have na : H a = none := by cases e : H a with | none => rfl | some o => rw [s2 _ _ e] at ha; cases ha
    have nb : H b = none := by cases e : H b with | none => rfl | some o => rw [s3 _ _ (s2 _ _ e)] at hb; cases hb
    generalize upd H3 b (.dK []) = H4 at sb db da e4 s4 ⊢
    have sub : ∀ {H' : Hp} (x : Addr) (o : HO), (x = W0 ∨ x = a ∨ x = b) → Same H H' → Same H (upd H' x o) := fun x o hx sm y o' e => by
      rw [upd_ne]
      · exact sm _ _ e
      · rintro rfl
        rcases hx with rfl | rfl | rfl
        · rw [nW] at e; cases e
        · rw [na] at e; cases e
        · rw [nb] at e; cases e
    refine ⟨fun m σ H' => ∃ x4 x5 wl ah be, m = (n - cnt ah n) + wl.length ∧ σ = [some (.ref P), some (.ref W0), some (.ref a), some (.ref b), x4, x5] ∧ Same H H' ∧ H' W0 = some (nO wl) ∧ DAt H' a n (seV ah) ∧ DAt H' b n (seV be) ∧ (∀ i ∈ wl, ah i = true) ∧ wl.length ≤ cnt ah n ∧ Reach A n nx ls D T ah be (fun i => i ∈ wl),
      ⟨_, _, _, wl, _, _, rfl, rfl, s4, e4, da, db, fun i hi => ?_, ?_, (Reach.start hM hfree).mono fun i _ h => .inl ((mwl i).mpr h)⟩, ?_⟩
    · obtain ⟨h1, h2⟩ := (mwl i).mp hi
      simp [h1, h2]
    · rw [lwl]
      exact Nat.le_of_eq (cnt_congr fun i hi => by simp [hi])
    rintro m σ H' ⟨x4, x5, wl, ah, be, rfl, rfl, sm, ew, da, db, wah, wle, R⟩
    refine ⟨_, rfl, Nat.zero_le _, fun U hU => ⟨W0, U, _, rfl, rfl, .inl (.inl ((same_upd hU) _ _ ew)), .inl (.inl upd_same), _, rfl, ?_⟩⟩
    have sU := same_upd (o := .lst []) hU
    have smU := sm.trans sU
    have ewU := sU _ _ ew
    have daU := da.same (sU _)
    have dbU := db.same (sU _)
    generalize upd H' U (.lst []) = H5 at sU smU ewU daU dbU ⊢
    show if (!(nv wl).isEmpty) = true then _ else _
    have hca := cnt_le ah n
    refine iteN (fun he => ?_) (fun he => ?_)
    · have hwl : wl ≠ [] := fun e => by rw [e] at he; cases he
      obtain ⟨wr, i, rfl⟩ : ∃ wr i, wl = wr ++ [i] := ⟨_, _, (List.dropLast_concat_getLast hwl).symm⟩
      have hlen : (wr ++ [i]).length = wr.length + 1 := by simp
      refine ⟨fun σ' H'' => ∃ m', m' < _ ∧ _, fun σ' H'' h => h, ?_⟩
      have hP5 := hP.same smU
      refine ⟨_, rfl, P, _, dx, _, _, rfl, hP5.at_, c.c_Pairing, c.n_its_behinds, rfl, _, rfl, .inl ⟨rfl, _, .inl (.inl ewU)⟩, W0, _, .int (i : Nat), rfl, rfl, ewU, ?_, ?_⟩
      · unfold nv
        rw [List.map_append, List.length_append]
        simp
      have ein : i < n := R.an i (wah i (by simp))
      obtain ⟨q, hq⟩ : ∃ q, ps[i]? = some q := ⟨_, List.getElem?_eq_getElem (by omega)⟩
      have hq2 : q.2 = nO (behL A n i) := by
        have := congrArg (·[i]?) b3
        simp only [List.getElem?_map, hq, rangeget ein] at this
        simpa using this
      have hvq : ps.vs[i]? = some (.ref q.1) := by rw [List.getElem?_map, hq]; rfl
      have hq3 : H q.1 = some (nO (behL A n i)) := by rw [← hq2]; exact b2 q (List.mem_of_getElem? hq)
      have edl : (nv (wr ++ [i])).dropLast = nv wr := by unfold nv; rw [List.map_append]; simp
      rw [edl]
      have sm6 := sub (H' := H5) W0 (nO wr) (.inl rfl) smU
      have e6 : (upd H5 W0 (nO wr)) W0 = some (nO wr) := upd_same
      have da6 : DAt (upd H5 W0 (nO wr)) a n (seV ah) := daU.same fun o e => by rw [upd_ne hneWa.symm]; exact e
      have db6 : DAt (upd H5 W0 (nO wr)) b n (seV be) := dbU.same fun o e => by rw [upd_ne hneWb.symm]; exact e
      refine ⟨B, _, _, _, rfl, rfl, .inl (.inl (sm6 _ _ b1)), atI_nat hvq, q.1, rfl, ⟨_, .inl (.inl (sm6 _ _ hq3))⟩, ?_⟩
      generalize upd H5 W0 (nO wr) = H6 at sm6 e6 da6 db6 ⊢
      refine for_list (xs := nv (behL A n i)) (fun t σ H' => ∃ x4 x5 wl ah' be, (n - cnt ah' n) + wl.length ≤ (n - cnt ah n) + wr.length ∧ σ = [some (.ref P), some (.ref W0), some (.ref a), some (.ref b), x4, x5] ∧ Same H H' ∧ H' W0 = some (nO wl) ∧ DAt H' a n (seV ah') ∧ DAt H' b n (seV be) ∧ (∀ i ∈ wl, ah' i = true) ∧ wl.length + 1 ≤ cnt ah' n ∧ Reach A n nx ls D T ah' be (fun x => x ∈ wl ∨ x = i) ∧ ah' i = true ∧ ∀ k j, k < t → (behL A n i)[k]? = some j → be j = true) ?_ ?_ ?_ ?_
      · exact ⟨_, _, wr, ah, be, Nat.le_refl _, rfl, sm6, e6, da6, db6, fun x hx => wah x (List.mem_append_left _ hx), by omega, R.mono fun x _ hx => by
          rcases List.mem_append.mp hx with h | h
          · exact .inl (.inl h)
          · exact .inl (.inr (by simpa using h)), wah i (by simp), fun _ _ h => absurd h (Nat.not_lt_zero _)⟩
      · rintro t σ H' _ ⟨_, _, _, _, _, _, _, sm', _⟩
        exact .inl (.inl (sm' _ _ hq3))
      · rintro t x σ H' hx ⟨x4, x5, wl, ah', be, hm, rfl, sm', ew, da, db, wah, wle, R, hai, tr⟩
        obtain ⟨j, hj, rfl⟩ : ∃ j, (behL A n i)[t]? = some j ∧ V.int (j : Nat) = x := by rw [List.getElem?_map] at hx; exact Option.map_eq_some_iff.mp hx
        obtain ⟨jn, ja⟩ := behL_mem.mp (List.mem_of_getElem? hj)
        have step : ∀ be' : Nat → Bool, (∀ x, be x = true → be' x = true) → be' j = true → ∀ k y, k < t + 1 → (behL A n i)[k]? = some y → be' y = true := fun be' h1 h2 k y hk hy => by
          by_cases e : k = t
          · rw [e, hj] at hy
            injection hy with hy
            rw [← hy]; exact h2
          · exact h1 y (tr k y (by omega) hy)
        refine ⟨_, rfl, _, rfl, b, _, rfl, db.get j, _, rfl, ?_⟩
        show if (!(seV be j).isSome) = true then _ else _
        rw [seV_some]
        refine iteN (fun hs => ?_) (fun hs => ?_)
        · obtain ⟨i1, l1, l2⟩ := R.ex hC hai jn ja
          obtain ⟨o, o1, db2⟩ := see db jn hn
          refine ⟨_, rfl, _, rfl, b, _, rfl, o1, ?_⟩
          have sm2 := sub b o (.inr (.inr rfl)) sm'
          have ew2 : (upd H' b o) W0 = some (nO wl) := by rw [upd_ne hneWb]; exact ew
          have da2 : DAt (upd H' b o) a n (seV ah') := da.same fun o' e => by rw [upd_ne hneab]; exact e
          generalize upd H' b o = H2 at sm2 ew2 da2 db2 ⊢
          have hg : ∀ {H'}, Same H H' → DGet H' L (.int (j : Nat)) (some (.int (i1 : Nat))) := fun e => by
            have := (hD.same e).dl.get j
            rw [pmV_get l1] at this
            exact this
          refine ⟨_, rfl, P, _, dx, _, _, rfl, (hP.same sm2).at_, c.c_Pairing, c.n_its_lasts, rfl, _, rfl, L, _, rfl, hg sm2, _, rfl, a, _, rfl, da2.get i1, _, rfl, ?_⟩
          show if (!(seV ah' i1).isSome) = true then _ else _
          rw [seV_some]
          refine iteN (fun hs1 => ?_) (fun hs1 => ?_)
          · have i1n : i1 < n := (hM.bwd j i1 l1).2.1
            obtain ⟨o', o1', da3⟩ := see da2 i1n hn
            refine ⟨_, rfl, ⟨_, rfl, P, _, dx, _, _, rfl, (hP.same sm2).at_, c.c_Pairing, c.n_its_lasts, rfl, _, rfl, L, _, rfl, hg sm2, a, _, rfl, o1', ?_⟩⟩
            have sm3 := sub a o' (.inr (.inl rfl)) sm2
            have ew3 : (upd H2 a o') W0 = some (nO wl) := by rw [upd_ne hneWa]; exact ew2
            have db3 : DAt (upd H2 a o') b n (seV fun x => be x || decide (x = j)) := db2.same fun o'' e => by rw [upd_ne hneab.symm]; exact e
            generalize upd H2 a o' = H7 at sm3 ew3 da3 db3 ⊢
            have hc := cnt_add (S := ah') (a := i1) hs1 (n := n)
            rw [if_pos i1n] at hc
            have hcl := cnt_le (fun x => ah' x || decide (x = i1)) n
            refine ⟨_, rfl, .inl ⟨rfl, _, .inl (.inl ew3)⟩, ⟨_, rfl, P, _, dx, _, _, rfl, (hP.same sm3).at_, c.c_Pairing, c.n_its_lasts, rfl, _, rfl, L, _, rfl, hg sm3, W0, _, _, rfl, rfl, ew3, ?_, ?_⟩⟩
            · rw [List.length_map]; omega
            · refine ⟨_, _, wl ++ [i1], _, _, ?_, rfl, sub W0 _ (.inl rfl) sm3, by rw [upd_same]; unfold nO nv; rw [List.map_append]; rfl, da3.same fun o'' e => by rw [upd_ne hneWa.symm]; exact e, db3.same fun o'' e => by rw [upd_ne hneWb.symm]; exact e, fun x hx => ?_, ?_, (R.add hM hC hai jn ja l1).mono fun x _ h => ?_, ?_, step _ (fun x h => by simp [h]) (by simp)⟩
              · rw [List.length_append, hc]; simp; omega
              · rcases List.mem_append.mp hx with h | h
                · simp [wah x h]
                · simp [show x = i1 by simpa using h]
              · rw [List.length_append, hc]; simp; omega
              · rcases h with (h | h) | h
                · exact .inl (.inl (List.mem_append_left _ h))
                · exact .inl (.inr h)
                · exact .inl (.inl (List.mem_append_right _ (by simp [h])))
              · simp [hai]
          · exact ⟨_, _, wl, ah', _, hm, rfl, sm2, ew2, da2, db2, wah, wle, R.old hC hai jn ja l1 hs1, hai, step _ (fun x h => by simp [h]) (by simp)⟩
        · exact ⟨_, _, wl, ah', be, hm, rfl, sm', ew, da, db, wah, wle, R, hai, step be (fun _ h => h) hs⟩
      · rintro σ H' ⟨x4, x5, wl, ah', be, hm, rfl, sm', ew, da, db, wah, wle, R, hai, tr⟩
        refine ⟨_, ?_, x4, x5, wl, ah', be, rfl, rfl, sm', ew, da, db, wah, by omega, R.mono fun x _ h => ?_⟩
        · omega
        · rcases h with h | h
          · exact .inl h
          · refine .inr fun j hj a => ?_
            rw [h] at a
            obtain ⟨k, hk, e⟩ := List.mem_iff_getElem.mp (behL_mem.mpr ⟨hj, a⟩)
            exact tr k j (by rw [List.length_map]; exact hk) (by rw [← e]; exact List.getElem?_eq_getElem hk)
    · have hwl : wl = [] := by
        cases wl with
        | nil => rfl
        | cons _ _ => cases he
      subst hwl
      refine ⟨_, rfl, _, rfl, by show 2 ≤ sizeLine; decide, fun Z hZ => ?_⟩
      have sZ := same_upd (o := .tup [.ref a, .ref b]) hZ
      exact Qk _ Z a b ah be upd_same (daU.same (sZ _)) (dbU.same (sZ _)) (R.mono fun x _ h => absurd h List.not_mem_nil) (smU.trans sZ)
/-- Pairing(behinds), for the caller -/
theorem mkPairing {H : Hp} {a x dx : Addr} {n : Nat} {A : Nat → Nat → Bool} {Q : VK} {E : XK} (hx : H x = none) (hdx : H dx = none) (hL : LsAt H a ((List.range n).map (behL A n))) (hn : n ≤ 9)
    (q : ∀ H' N L nx ls, PairO K H' x a N L dx n A → PairD H' N L n nx ls → Tried A n n nx ls → Same H H' → Q .non H') :
    spPairInit K (.ref x :: ([.ref a] ++ [])) (upd (upd H dx (.own x)) x (.ins (He.ga K "Pairing") dx [])) Q E := by
  have s0 : Same H (upd (upd H dx (.own x)) x (.ins (He.ga K "Pairing") dx [])) := fun b o e => by
    rw [upd_ne (ne_of_none e hx), upd_ne (ne_of_none e hdx)]
    exact e
  exact ⟨x, a, dx, n, A, rfl, upd_same, hL.same s0, hn, fun H' N L nx ls hO hD hT k => q H' N L nx ls hO hD hT (Same.made hx hdx k)⟩
def spUnord (K : PySem.W.Frag) : Sp := fun vs H Q _ => ∃ (p a : Addr) (bs : Bs) (ds : List Dir) (sm : Bool), vs = [.ref p, .ref a, .bl sm] ∧ RowAt K H p bs ∧ H a = some (.lst (txs (ds.map nmD))) ∧ bs.length ≤ 9 ∧ Strict (aheadR ds sm bs.bows) bs.length ∧
  ∀ t H' xs, H' t = some (nO xs) → (∀ G : Nat → Nat → Bool, (∀ i j, i < bs.length → j < bs.length → i ≠ j → G i j = !(aheadR ds sm bs.bows i j || aheadR ds sm bs.bows j i)) → IsMost G bs.length 1 xs.length) → Same H H' → Q (.ref t) H'
theorem sc_unordered : FnScope ["row", "directions", "same", "ahead", "behind", "i"] ["row", "directions", "same"] (defScope s_unordered) := ⟨rfl, rfl, rfl, by decide +kernel, rfl, by decide +kernel, by decide +kernel⟩
theorem ok_unordered (c : Cy w K mg base) : Dk PG w K mg base "unordered" 2 14 ["row", "directions", "same"] (spUnord K) := by
  obtain ⟨fd, F⟩ := c.fd_unordered
  have D_Row___len__ := ok_Row_len c
  have D_behinds_of := ok_behinds_of c
  have D_Pairing___init__ := ok_Pairing_init c
  have D_Pairing_reached := ok_Pairing_reached c
  refine ⟨walkK F (by intro h; cases h) sc_unordered (fun vs H Q E h => ?_) (fun cdv A outer s H vs Q E hr h => ?_) fun _ _ _ _ _ _ us ws hl hw => match us, hl, ws, hw with | [_, _], _, [_], _ => rfl, c.m_unordered, F.kp⟩
  · obtain ⟨a, b, _, _, _, rfl, _⟩ := h
    rfl
  · obtain ⟨p, a, bs, ds, sm, rfl, hR, ha, hlen, hA, Qk⟩ := h
    have hu := hu_of hr
    obtain ⟨dx, l, hp, hl⟩ := hR.ex
    have b1000 : (1000 : Nat) < sizeLine := by decide
    refine ⟨_, (pss_cons (ps_asg (Dm.call0 (K0 := K) (by rfl) D_Pairing_reached (hr.mono (by decide)) (Di.make (K0 := K) (by rfl) D_Pairing___init__ (hr.mono (by decide)) rfl (pa_cons (D_behinds_of.call (hr.mono (by decide)) rfl (pa_cons (pv 0) (pa_cons (pv 1) (pa_cons (pv 2) pa_nil)))) pa_nil))) (pg_tup_k (K0 := K) (n := 2) (by rfl) (by rfl) (pgs_cons (pg_name (i := 3) sc_unordered.nd rfl (by first | exact Or.inl rfl | exact Or.inr rfl)) (pgs_cons (pg_name (i := 4) sc_unordered.nd rfl (by first | exact Or.inl rfl | exact Or.inr rfl)) pgs_nil))))
      (pss_one (ps_ret (pe_lc rfl sc_unordered.nd (pi_range1 (by rfl) c.f_range (pa_cons (pe_callB (Dm.len (K0 := K) (by rfl) D_Row___len__ (hr.mono (by decide))) (by rfl) c.f_len PySem.boot_len (pa_cons (pv 0) pa_nil)) pa_nil)) (blkOk_by (own := [("i", 5)]) (by show blkC ["row", "directions", "same", "ahead", "behind", "i"] (defScope s_unordered) _ _ = true; decide +kernel)) (fun _ _ _ _ _ => (pg_name (i := 5) sc_unordered.nd rfl (by first | exact Or.inl rfl | exact Or.inr rfl))) (fun _ _ _ _ _ => (pts_one (PW.pt (pw_and (pt_cmp (pc_din hu (pv 5) (pv 3))) (pw_and1 (pt_cmp (pc_dnotin hu (pv 5) (pv 4)))))))) (fun _ _ _ _ _ => (pv 5)))))), ?_⟩
    refine ⟨_, rfl, _, rfl, _, rfl, p, a, bs, ds, sm, rfl, hR, ha, by omega, fun B H1 L1 s1 => ?_⟩
    generalize hAA : aheadR ds sm bs.bows = AA at hA L1 Qk
    generalize hn : bs.length = n at hA L1 Qk hlen
    refine fun x dx' h1 h2 h3 => mkPairing h1 h2 L1 hlen fun H2 N L nx ls hO hD hT s2 => ⟨rfl, ?_⟩
    obtain ⟨D, T, hC, hd⟩ := hT.dead
    refine ⟨x, dx', _, rfl, hO.at_, rfl, x, B, N, L, dx', n, AA, nx, ls, D, T, rfl, hO, hD, hT.mt, hC, fun i hi e => hd i hi e, by omega, fun H3 R a' b ah be eR da db hRe s3 => ?_⟩
    have s13 := (s1.trans s2).trans s3
    refine ⟨R, _, rfl, .inl (.inl eR), rfl, _, _, rfl, _, _, rfl, rfl, ?_⟩
    refine ⟨_, rfl, p, dx, _, rfl, s13 _ _ hp, p, bs, rfl, hR.same s13, bs.length, rfl, by omega, ?_⟩
    refine ⟨((n : Nat) : Int), by rw [hn], by omega, by omega, fun Z hZ => ?_⟩
    rw [Int.toNat_natCast]
    refine lc_accR (lo := 0) (n := n) (accF (List.range n) (fun i => ah i && !be i) fun i => V.int (i : Nat)) (by omega) hZ rfl (fun i H5 hi s5 _ K1 K0 k1 k0 => ?_) fun H5 s5 e5 => ?_
    · refine ⟨rfl, _, rfl, _, rfl, a', seV ah i, rfl, ?_, _, rfl, ?_⟩
      · rw [Int.zero_add]; exact (da.same (s5 _)).get i
      · rw [seV_some]
        refine iteB (fun h => ?_) (fun h => ?_)
        · refine ⟨_, rfl, _, rfl, b, seV be i, rfl, ?_, _, rfl, ?_⟩
          · rw [Int.zero_add]; exact (db.same (s5 _)).get i
          · rw [seV_some]
            refine iteN (fun h' => ?_) (fun h' => ?_)
            · refine ⟨_, rfl, k1 _ _ (Same.refl _) ?_⟩
              rw [Int.zero_add]
              exact accF_yes (rangeget hi) (by rw [h, h']; rfl)
            · exact k0 _ (Same.refl _) (accF_no (rangeget hi) (by rw [h, h']; rfl))
        · exact k0 _ (Same.refl _) (accF_no (rangeget hi) (by rw [h]; rfl))
    · rw [accF_all (List.length_range).symm] at e5
      refine Qk Z H5 _ e5 (fun G hG => ?_) (s13.trans s5)
      have := hRe.most hA hT.mt hG
      rw [cnt_filter]
      exact this
end
end Bw
end
section
set_option linter.all false
set_option maxRecDepth 100000
set_option maxHeartbeats 4000000
/-! The plain law of the ends: numbers at begins and ends, bows without common ends, trees of ties. -/
namespace Bw
abbrev Pi := Int → Option Int
def Pi.put (f : Pi) (a b : Int) : Pi := fun x => if x = a then some b else f x
def Pi.cut (f : Pi) (a : Int) : Pi := fun x => if x = a then none else f x
theorem Pi.put_eq (f : Pi) (a b : Int) : f.put a b a = some b := if_pos rfl
theorem Pi.put_ne (f : Pi) {a b x : Int} (h : x ≠ a) : f.put a b x = f x := if_neg h
theorem Pi.cut_eq (f : Pi) (a : Int) : f.cut a a = none := if_pos rfl
theorem Pi.cut_ne (f : Pi) {a x : Int} (h : x ≠ a) : f.cut a x = f x := if_neg h
abbrev Bow2 := Int × Int
/-- what is kept from one settling to the next -/
structure Du (xs : List Bow2) (w : Bow2 → Int) (u v : Int → Int) (mu pi : Pi) : Prop where
  u0 : ∀ x ∈ xs, 0 ≤ u x.1
  v0 : ∀ x ∈ xs, 0 ≤ v x.2
  cov : ∀ x ∈ xs, w x ≤ u x.1 + v x.2
  fwd : ∀ b e, mu b = some e → pi e = some b
  bwd : ∀ e b, pi e = some b → mu b = some e
  edge : ∀ b e, mu b = some e → (b, e) ∈ xs ∧ u b + v e = w (b, e)
  vm : ∀ x ∈ xs, 0 < v x.2 → (pi x.2).isSome = true
/-- the begins that were settled -/
structure Don (u : Int → Int) (mu : Pi) (dn : Int → Prop) : Prop where
  yes : ∀ b, dn b → 0 < u b → (mu b).isSome = true
  no : ∀ b, (mu b).isSome = true → dn b
/-- the tree that grows from a begin -/
structure Tr (xs : List Bow2) (w : Bow2 → Int) (u v : Int → Int) (mu pi : Pi) (st : Int) (G : Int → Bool) (c : Pi) (r : Int → Nat) : Prop where
  s1 : G st = true
  s2 : mu st = none
  gb : ∀ b, G b = true → ∃ x ∈ xs, x.1 = b
  gm : ∀ b, G b = true → b = st ∨ ∃ e, mu b = some e ∧ (c e).isSome = true
  ce : ∀ e b, c e = some b → G b = true ∧ (b, e) ∈ xs ∧ u b + v e = w (b, e)
  cp : ∀ e, (c e).isSome = true → ∃ b, pi e = some b ∧ G b = true
  rk : ∀ e b, c e = some b → b = st ∨ ∃ e', mu b = some e' ∧ (c e').isSome = true ∧ r e' < r e
/-- a tree's road with a hole at e -/
structure Ho (xs : List Bow2) (w : Bow2 → Int) (u v : Int → Int) (mu pi : Pi) (st : Int) (c : Pi) (r : Int → Nat) (e : Int) : Prop where
  fwd : ∀ b e', mu b = some e' → e' ≠ e ∧ pi e' = some b
  bwd : ∀ e' b, e' ≠ e → pi e' = some b → mu b = some e'
  edge : ∀ b e', mu b = some e' → (b, e') ∈ xs ∧ u b + v e' = w (b, e')
  ce : ∀ e' b, c e' = some b → (b, e') ∈ xs ∧ u b + v e' = w (b, e')
  co : (c e).isSome = true
  s2 : mu st = none
  rk : ∀ e' b, c e' = some b → r e' ≤ r e → b = st ∨ ∃ e'', mu b = some e'' ∧ (c e'').isSome = true ∧ r e'' < r e'
/-- what flip leaves -/
structure Fl (xs : List Bow2) (w : Bow2 → Int) (u v : Int → Int) (mu pi : Pi) (st e : Int) (mu' pi' : Pi) : Prop where
  fwd : ∀ b e, mu' b = some e → pi' e = some b
  bwd : ∀ e b, pi' e = some b → mu' b = some e
  edge : ∀ b e, mu' b = some e → (b, e) ∈ xs ∧ u b + v e = w (b, e)
  md : ∀ b, (mu' b).isSome = ((mu b).isSome || decide (b = st))
  pd : ∀ e', (pi e').isSome = true → (pi' e').isSome = true
section
variable {xs : List Bow2} {w : Bow2 → Int} {u v : Int → Int} {mu pi : Pi} {st : Int} {G : Int → Bool} {c : Pi} {r : Int → Nat} {e b e1 : Int}
/-- the last step of flip -/
theorem Ho.last (h : Ho xs w u v mu pi st c r e) (hc : c e = some st) : Fl xs w u v mu pi st e (mu.put st e) (pi.put e st) := by
  refine ⟨fun b' e' hb => ?_, fun e' b' he => ?_, fun b' e' hb => ?_, fun b' => ?_, fun e' he => ?_⟩
  · by_cases eb : b' = st
    · rw [eb, Pi.put_eq] at hb
      injection hb with hb
      rw [← hb, eb, Pi.put_eq]
    · rw [Pi.put_ne _ eb] at hb
      obtain ⟨h1, h2⟩ := h.fwd b' e' hb
      rw [Pi.put_ne _ h1]; exact h2
  · by_cases ee : e' = e
    · rw [ee, Pi.put_eq] at he
      injection he with he
      rw [← he, ee, Pi.put_eq]
    · rw [Pi.put_ne _ ee] at he
      have h1 := h.bwd e' b' ee he
      have eb : b' ≠ st := fun z => by rw [z, h.s2] at h1; cases h1
      rw [Pi.put_ne _ eb]; exact h1
  · by_cases eb : b' = st
    · rw [eb, Pi.put_eq] at hb
      injection hb with hb
      rw [← hb, eb]; exact h.ce e st hc
    · rw [Pi.put_ne _ eb] at hb
      exact h.edge b' e' hb
  · by_cases eb : b' = st
    · rw [eb, Pi.put_eq]; simp
    · rw [Pi.put_ne _ eb]; simp [eb]
  · by_cases ee : e' = e
    · rw [ee, Pi.put_eq]; rfl
    · rw [Pi.put_ne _ ee]; exact he
/-- a step of flip: the hole goes on -/
theorem Ho.next (h : Ho xs w u v mu pi st c r e) (hc : c e = some b) (hb : b ≠ st) : ∃ e1, mu b = some e1 ∧ r e1 < r e ∧ Ho xs w u v (mu.put b e) (pi.put e b) st c r e1 := by
  rcases h.rk e b hc (Nat.le_refl _) with z | ⟨e1, m1, c1, r1⟩
  · exact absurd z hb
  · refine ⟨e1, m1, r1, ⟨fun b' e' hm => ?_, fun e' b' ne hp => ?_, fun b' e' hm => ?_, h.ce, c1, ?_, fun e' b' hc' hr => ?_⟩⟩
    · by_cases eb : b' = b
      · rw [eb, Pi.put_eq] at hm
        injection hm with hm
        subst hm
        exact ⟨fun z => (h.fwd b e1 m1).1 z.symm, by rw [eb, Pi.put_eq]⟩
      · rw [Pi.put_ne _ eb] at hm
        obtain ⟨h1, h2⟩ := h.fwd b' e' hm
        refine ⟨fun z => eb ?_, by rw [Pi.put_ne _ h1]; exact h2⟩
        rw [z, (h.fwd b e1 m1).2] at h2
        injection h2 with h2
        exact h2.symm
    · by_cases ee : e' = e
      · rw [ee, Pi.put_eq] at hp
        injection hp with hp
        rw [← hp, Pi.put_eq, ee]
      · rw [Pi.put_ne _ ee] at hp
        have h1 := h.bwd e' b' ee hp
        have eb : b' ≠ b := fun z => by
          rw [z, m1] at h1
          injection h1 with h1
          exact ne h1.symm
        rw [Pi.put_ne _ eb]; exact h1
    · by_cases eb : b' = b
      · rw [eb, Pi.put_eq] at hm
        injection hm with hm
        subst hm
        rw [eb]; exact h.ce e b hc
      · rw [Pi.put_ne _ eb] at hm
        exact h.edge b' e' hm
    · rw [Pi.put_ne _ (Ne.symm hb)]; exact h.s2
    · rcases h.rk e' b' hc' (by omega) with z | ⟨e2, g1, g2, g3⟩
      · exact .inl z
      · refine .inr ⟨e2, ?_, g2, g3⟩
        have eb : b' ≠ b := fun z => by
          rw [z, m1] at g1
          injection g1 with g1
          rw [← g1] at g3
          omega
        rw [Pi.put_ne _ eb]; exact g1
/-- a flip after a step -/
theorem Fl.step {mu' pi' : Pi} (h : Ho xs w u v mu pi st c r e) (hm : mu b = some e1) (F : Fl xs w u v (mu.put b e) (pi.put e b) st e1 mu' pi') : Fl xs w u v mu pi st e mu' pi' := by
  refine ⟨F.fwd, F.bwd, F.edge, fun b' => ?_, fun e' he => F.pd e' ?_⟩
  · rw [F.md b']
    by_cases eb : b' = b
    · rw [eb, Pi.put_eq, hm]; rfl
    · rw [Pi.put_ne _ eb]
  · by_cases ee : e' = e
    · rw [ee, Pi.put_eq]; rfl
    · rw [Pi.put_ne _ ee]; exact he
theorem Tr.start (D : Du xs w u v mu pi) (hs : ∃ x ∈ xs, x.1 = st) (hm : mu st = none) : Tr xs w u v mu pi st (fun b => decide (b = st)) (fun _ => none) fun _ => 0 :=
  ⟨by simp, hm, fun b hb => by rw [of_decide_eq_true hb]; exact hs, fun b hb => .inl (of_decide_eq_true hb), fun _ _ h => (by cases h), fun _ h => (by cases h), fun _ _ h => (by cases h)⟩
/-- the rank of a new end -/
def rkOf (mu : Pi) (r : Int → Nat) (b : Int) : Nat := match mu b with | some e' => r e' + 1 | none => 0
/-- an end comes that has a partner -/
theorem Tr.grow (D : Du xs w u v mu pi) (T : Tr xs w u v mu pi st G c r) (hg : G b = true) (hn : c e = none) (hx : (b, e) ∈ xs) (ht : u b + v e = w (b, e)) {b2 : Int} (hp : pi e = some b2) :
    Tr xs w u v mu pi st (fun x => G x || decide (x = b2)) (c.put e b) (fun x => if x = e then rkOf mu r b else r x) := by
  have m2 := D.bwd e b2 hp
  have cs : ∀ e', (c e').isSome = true → ((c.put e b) e').isSome = true := fun e' h => by
    by_cases z : e' = e
    · rw [z, Pi.put_eq]; rfl
    · rw [Pi.put_ne _ z]; exact h
  refine ⟨by show (G st || _) = true; rw [T.s1]; rfl, T.s2, fun x hx' => ?_, fun x hx' => ?_, fun e' b' hc => ?_, fun e' hc => ?_, fun e' b' hc => ?_⟩
  · rcases Bool.or_eq_true_iff.mp hx' with h | h
    · exact T.gb x h
    · rw [of_decide_eq_true h]; exact ⟨_, (D.edge b2 e m2).1, rfl⟩
  · rcases Bool.or_eq_true_iff.mp hx' with h | h
    · rcases T.gm x h with z | ⟨e', h1, h2⟩
      · exact .inl z
      · exact .inr ⟨e', h1, cs e' h2⟩
    · rw [of_decide_eq_true h]
      exact .inr ⟨e, m2, by rw [Pi.put_eq]; rfl⟩
  · by_cases z : e' = e
    · rw [z, Pi.put_eq] at hc
      injection hc with hc
      rw [← hc, z]
      exact ⟨by simp [hg], hx, ht⟩
    · rw [Pi.put_ne _ z] at hc
      obtain ⟨h1, h2⟩ := T.ce e' b' hc
      exact ⟨by simp [h1], h2⟩
  · by_cases z : e' = e
    · rw [z]; exact ⟨b2, hp, by simp⟩
    · rw [Pi.put_ne _ z] at hc
      obtain ⟨b', h1, h2⟩ := T.cp e' hc
      exact ⟨b', h1, by simp [h2]⟩
  · by_cases z : e' = e
    · rw [z, Pi.put_eq] at hc
      injection hc with hc
      subst hc
      rcases T.gm b hg with h | ⟨e2, h1, h2⟩
      · exact .inl h
      · have ne : e2 ≠ e := fun q => by rw [q, hn] at h2; cases h2
        refine .inr ⟨e2, h1, cs e2 h2, ?_⟩
        rw [if_neg ne, if_pos z]
        unfold rkOf
        rw [h1]
        exact Nat.lt_succ_self _
    · rw [Pi.put_ne _ z] at hc
      rcases T.rk e' b' hc with h | ⟨e2, h1, h2, h3⟩
      · exact .inl h
      · have ne : e2 ≠ e := fun q => by rw [q, hn] at h2; cases h2
        refine .inr ⟨e2, h1, cs e2 h2, ?_⟩
        rw [if_neg ne, if_neg z]
        exact h3
/-- an end comes that has none: a hole there -/
theorem Tr.hole (D : Du xs w u v mu pi) (T : Tr xs w u v mu pi st G c r) (hg : G b = true) (hn : c e = none) (hx : (b, e) ∈ xs) (ht : u b + v e = w (b, e)) (hp : pi e = none) :
    Ho xs w u v mu pi st (c.put e b) (fun x => if x = e then rkOf mu r b else r x) e := by
  have cs : ∀ e', (c e').isSome = true → ((c.put e b) e').isSome = true := fun e' h => by
    by_cases z : e' = e
    · rw [z, Pi.put_eq]; rfl
    · rw [Pi.put_ne _ z]; exact h
  refine ⟨fun b' e' hm => ⟨fun z => ?_, D.fwd b' e' hm⟩, fun e' b' _ h => D.bwd e' b' h, D.edge, fun e' b' hc => ?_, by rw [Pi.put_eq]; rfl, T.s2, fun e' b' hc _ => ?_⟩
  · have := D.fwd b' e' hm
    rw [z, hp] at this
    cases this
  · by_cases z : e' = e
    · rw [z, Pi.put_eq] at hc
      injection hc with hc
      rw [← hc, z]; exact ⟨hx, ht⟩
    · rw [Pi.put_ne _ z] at hc
      exact (T.ce e' b' hc).2
  · by_cases z : e' = e
    · rw [z, Pi.put_eq] at hc
      injection hc with hc
      subst hc
      rcases T.gm b hg with h | ⟨e2, h1, h2⟩
      · exact .inl h
      · have ne : e2 ≠ e := fun q => by rw [q, hn] at h2; cases h2
        refine .inr ⟨e2, h1, cs e2 h2, ?_⟩
        rw [if_neg ne, if_pos z]
        unfold rkOf
        rw [h1]
        exact Nat.lt_succ_self _
    · rw [Pi.put_ne _ z] at hc
      rcases T.rk e' b' hc with h | ⟨e2, h1, h2, h3⟩
      · exact .inl h
      · have ne : e2 ≠ e := fun q => by rw [q, hn] at h2; cases h2
        refine .inr ⟨e2, h1, cs e2 h2, ?_⟩
        rw [if_neg ne, if_neg z]
        exact h3
/-- a begin leaves its end: a hole there -/
theorem Tr.leave (D : Du xs w u v mu pi) (T : Tr xs w u v mu pi st G c r) (hg : G b = true) (hb : b ≠ st) : ∃ e, mu b = some e ∧ Ho xs w u v (mu.cut b) pi st c r e := by
  rcases T.gm b hg with h | ⟨e, h1, h2⟩
  · exact absurd h hb
  · refine ⟨e, h1, ⟨fun b' e' hm => ?_, fun e' b' ne hp => ?_, fun b' e' hm => ?_, fun e' b' hc => (T.ce e' b' hc).2, h2, ?_, fun e' b' hc hr => ?_⟩⟩
    · by_cases z : b' = b
      · rw [z, Pi.cut_eq] at hm; cases hm
      · rw [Pi.cut_ne _ z] at hm
        have := D.fwd b' e' hm
        refine ⟨fun q => z ?_, this⟩
        rw [q, D.fwd b e h1] at this
        injection this with this
        exact this.symm
    · have := D.bwd e' b' hp
      have z : b' ≠ b := fun q => by
        rw [q, h1] at this
        injection this with this
        exact ne this.symm
      rw [Pi.cut_ne _ z]; exact this
    · by_cases z : b' = b
      · rw [z, Pi.cut_eq] at hm; cases hm
      · rw [Pi.cut_ne _ z] at hm
        exact D.edge b' e' hm
    · rw [Pi.cut_ne _ (Ne.symm hb)]; exact T.s2
    · rcases T.rk e' b' hc with z | ⟨e2, g1, g2, g3⟩
      · exact .inl z
      · refine .inr ⟨e2, ?_, g2, g3⟩
        have z : b' ≠ b := fun q => by
          rw [q, h1] at g1
          injection g1 with g1
          rw [← g1] at g3
          omega
        rw [Pi.cut_ne _ z]; exact g1
/-- numbers shifted -/
def shU (u : Int → Int) (G : Int → Bool) (m : Int) : Int → Int := fun b => if G b = true then u b - m else u b
def shV (v : Int → Int) (c : Pi) (m : Int) : Int → Int := fun e => if (c e).isSome = true then v e + m else v e
theorem Tr.pair (D : Du xs w u v mu pi) (T : Tr xs w u v mu pi st G c r) {b e m : Int} (hm : mu b = some e) : shU u G m b + shV v c m e = u b + v e := by
  unfold shU shV
  by_cases h : (c e).isSome = true
  · obtain ⟨b', h1, h2⟩ := T.cp e h
    rw [D.fwd b e hm] at h1
    injection h1 with h1
    rw [if_pos (by rw [h1]; exact h2), if_pos h]
    omega
  · have : ¬ G b = true := fun g => by
      rcases T.gm b g with z | ⟨e', h1, h2⟩
      · rw [z, T.s2] at hm; cases hm
      · rw [hm] at h1
        injection h1 with h1
        exact h (by rw [h1]; exact h2)
    rw [if_neg this, if_neg h]
theorem Tr.shiftD (D : Du xs w u v mu pi) (T : Tr xs w u v mu pi st G c r) {m : Int} (m0 : 0 ≤ m) (h1 : ∀ b, G b = true → m ≤ u b) (h2 : ∀ x ∈ xs, G x.1 = true → c x.2 = none → m ≤ u x.1 + v x.2 - w x) :
    Du xs w (shU u G m) (shV v c m) mu pi := by
  refine ⟨fun x hx => ?_, fun x hx => ?_, fun x hx => ?_, D.fwd, D.bwd, fun b e hm => ?_, fun x hx hv => ?_⟩
  · have := D.u0 x hx
    unfold shU
    by_cases g : G x.1 = true
    · rw [if_pos g]
      have := h1 _ g
      omega
    · rw [if_neg g]; exact this
  · have := D.v0 x hx
    unfold shV
    split <;> omega
  · have := D.cov x hx
    unfold shU shV
    by_cases g : G x.1 = true
    · rw [if_pos g]
      by_cases h : (c x.2).isSome = true
      · rw [if_pos h]; omega
      · rw [if_neg h]
        have := h2 x hx g (by simpa using h)
        omega
    · rw [if_neg g]
      split <;> omega
  · obtain ⟨g1, g2⟩ := D.edge b e hm
    exact ⟨g1, by rw [T.pair D hm]; exact g2⟩
  · by_cases h : (c x.2).isSome = true
    · obtain ⟨b', g1, _⟩ := T.cp _ h
      rw [g1]; rfl
    · refine D.vm x hx ?_
      unfold shV at hv
      rw [if_neg h] at hv
      exact hv
theorem Tr.shiftT (D : Du xs w u v mu pi) (T : Tr xs w u v mu pi st G c r) (m : Int) : Tr xs w (shU u G m) (shV v c m) mu pi st G c r := by
  refine ⟨T.s1, T.s2, T.gb, T.gm, fun e b hc => ?_, T.cp, T.rk⟩
  obtain ⟨h1, h2, h3⟩ := T.ce e b hc
  refine ⟨h1, h2, ?_⟩
  unfold shU shV
  rw [if_pos h1, if_pos (by rw [hc]; rfl), ← h3]
  omega
theorem Don.shift {dn : Int → Prop} (h : Don u mu dn) {m : Int} (m0 : 0 ≤ m) : Don (shU u G m) mu dn :=
  ⟨fun b hb hu => h.yes b hb (by unfold shU at hu; split at hu <;> omega), h.no⟩
/-- what stands when a flip came about -/
theorem Fl.du {mu' pi' : Pi} (D : Du xs w u v mu pi) {mu1 : Pi} {e : Int} (F : Fl xs w u v mu1 pi st e mu' pi') : Du xs w u v mu' pi' :=
  ⟨D.u0, D.v0, D.cov, F.fwd, F.bwd, F.edge, fun x hx hv => F.pd _ (D.vm x hx hv)⟩
theorem Fl.dn {mu' pi' : Pi} {dn : Int → Prop} (h : Don u mu dn) {e : Int} (F : Fl xs w u v mu pi st e mu' pi') : Don u mu' fun b => dn b ∨ b = st := by
  refine ⟨fun b hb hu => ?_, fun b hb => ?_⟩
  · rw [F.md]
    rcases hb with hb | hb
    · rw [h.yes b hb hu]; rfl
    · simp [hb]
  · rw [F.md] at hb
    rcases Bool.or_eq_true_iff.mp hb with hb | hb
    · exact .inl (h.no b hb)
    · exact .inr (of_decide_eq_true hb)
theorem Fl.dnCut {mu' pi' : Pi} {dn : Int → Prop} (h : Don u mu dn) {b0 e : Int} (hu0 : u b0 = 0) (F : Fl xs w u v (mu.cut b0) pi st e mu' pi') : Don u mu' fun b => dn b ∨ b = st := by
  refine ⟨fun b hb hu => ?_, fun b hb => ?_⟩
  · have ne : b ≠ b0 := fun z => by rw [z, hu0] at hu; omega
    rw [F.md, Pi.cut_ne _ ne]
    rcases hb with hb | hb
    · rw [h.yes b hb hu]; rfl
    · simp [hb]
  · rw [F.md] at hb
    rcases Bool.or_eq_true_iff.mp hb with hb | hb
    · by_cases z : b = b0
      · rw [z, Pi.cut_eq] at hb; cases hb
      · rw [Pi.cut_ne _ z] at hb
        exact .inl (h.no b hb)
    · exact .inr (of_decide_eq_true hb)
theorem Don.zero {dn : Int → Prop} (h : Don u mu dn) (hs : u st = 0) : Don u mu fun b => dn b ∨ b = st :=
  ⟨fun b hb hu => h.yes b (hb.resolve_right fun z => by rw [z, hs] at hu; omega) hu, fun b hb => .inl (h.no b hb)⟩
end
end Bw
end
section
set_option linter.all false
set_option maxRecDepth 100000
set_option maxHeartbeats 4000000
/-! No layer of bows without common ends has more than the numbers tell. -/
namespace Bw
theorem sum_nonneg {α : Type} {f : α → Int} : ∀ (l : List α), (∀ a ∈ l, 0 ≤ f a) → 0 ≤ (l.map f).sum
  | [], _ => Int.le_refl _
  | a :: l, h => by
    have h1 := h a (List.mem_cons_self ..)
    have h2 := sum_nonneg l fun b hb => h b (List.mem_cons_of_mem _ hb)
    rw [List.map_cons, List.sum_cons]
    omega
theorem perm_sum {l l' : List Int} (h : l.Perm l') : l.sum = l'.sum := by
  induction h with
  | nil => rfl
  | cons x _ ih => rw [List.sum_cons, List.sum_cons, ih]
  | swap x y l => simp only [List.sum_cons]; omega
  | trans _ _ h1 h2 => rw [h1, h2]
theorem sum_zero {α : Type} [DecidableEq α] {y : α} : ∀ (X : List α), y ∉ X → (X.map fun x => if y = x then (1 : Int) else 0).sum = 0
  | [], _ => rfl
  | z :: X, h => by
    rw [List.map_cons, List.sum_cons, if_neg (fun q => h (by rw [q]; exact List.mem_cons_self ..)), sum_zero X fun q => h (List.mem_cons_of_mem _ q)]
    rfl
theorem sum_le {α : Type} [DecidableEq α] {f : α → Int} : ∀ (l l' : List α), l.Nodup → (∀ a ∈ l, 0 < f a → a ∈ l') → (∀ a ∈ l', 0 ≤ f a) → (l.map f).sum ≤ (l'.map f).sum
  | [], l', _, _, h0 => sum_nonneg l' h0
  | a :: l, l', hn, hs, h0 => by
    obtain ⟨n1, n2⟩ := List.nodup_cons.mp hn
    rw [List.map_cons, List.sum_cons]
    by_cases ha : 0 < f a
    · have hm := hs a (List.mem_cons_self ..) ha
      have hp := (List.perm_cons_erase hm).map f
      have h1 := sum_le l (l'.erase a) n2 (fun b hb h => (List.mem_erase_of_ne (fun e => n1 (by rw [← e]; exact hb))).mpr (hs b (List.mem_cons_of_mem _ hb) h)) fun b hb => h0 b (List.mem_of_mem_erase hb)
      have h2 := perm_sum hp
      rw [List.map_cons, List.sum_cons] at h2
      omega
    · have h1 := sum_le l l' n2 (fun b hb h => hs b (List.mem_cons_of_mem _ hb) h) h0
      omega
theorem sum_mono {α : Type} {f g : α → Int} : ∀ (l : List α), (∀ a ∈ l, f a ≤ g a) → (l.map f).sum ≤ (l.map g).sum
  | [], _ => Int.le_refl _
  | a :: l, h => by
    have h1 := h a (List.mem_cons_self ..)
    have h2 := sum_mono l fun b hb => h b (List.mem_cons_of_mem _ hb)
    simp only [List.map_cons, List.sum_cons]
    omega
theorem sum_add {α : Type} {f g : α → Int} : ∀ (l : List α), (l.map fun a => f a + g a).sum = (l.map f).sum + (l.map g).sum
  | [] => rfl
  | a :: l => by
    simp only [List.map_cons, List.sum_cons, sum_add l]
    omega
theorem sum_one {α : Type} [DecidableEq α] {y : α} : ∀ (X : List α), X.Nodup → y ∈ X → (X.map fun x => if y = x then (1 : Int) else 0).sum = 1
  | [], _, h => absurd h List.not_mem_nil
  | x :: X, hn, h => by
    obtain ⟨n1, n2⟩ := List.nodup_cons.mp hn
    rw [List.map_cons, List.sum_cons]
    by_cases e : y = x
    · rw [if_pos e]
      have := sum_zero (y := y) X (by rw [e]; exact n1)
      rw [this]; rfl
    · rw [if_neg e, sum_one X n2 ((List.mem_cons.mp h).resolve_left e)]
      omega
theorem length_counts {α : Type} [BEq α] [LawfulBEq α] [DecidableEq α] : ∀ (L X : List α), X.Nodup → (∀ y ∈ L, y ∈ X) → (L.length : Int) = (X.map fun x => (L.count x : Int)).sum
  | [], X, _, _ => by
    have : ∀ X : List α, (X.map fun x => (([] : List α).count x : Int)).sum = 0 := fun X => by
      induction X with
      | nil => rfl
      | cons z X ih => rw [List.map_cons, List.sum_cons, ih]; rfl
    rw [this]; rfl
  | y :: L, X, hn, h => by
    have h1 := length_counts L X hn fun z hz => h z (List.mem_cons_of_mem _ hz)
    have h2 := sum_one (y := y) X hn (h y (List.mem_cons_self ..))
    have h3 := sum_add (f := fun x => (L.count x : Int)) (g := fun x => if y = x then (1 : Int) else 0) X
    have h4 : (X.map fun x => ((y :: L).count x : Int)) = X.map fun x => (L.count x : Int) + if y = x then (1 : Int) else 0 := List.map_congr_left fun x _ => by
      rw [List.count_cons]
      by_cases e : y = x
      · simp [e]
      · simp [e]
    rw [h4, h3, h2, List.length_cons]
    omega
/-- two bows of a layer without common ends -/
def OkE (sm : Bool) (x y : Bow) : Prop := (x.1 ≠ y.1 ∧ x.2 ≠ y.2) ∨ (x = y ∧ sm = false)
abbrev bat (bs : List Bow) (i : Nat) : Bow := bs.getD i (0, 1)
def wOf (bs : List Bow) (sm : Bool) (x : Bow) : Int := if sm = true then 1 else (bs.count x : Int)
/-- the indexes of a bow -/
def idx (bs : List Bow) (x : Bow) : List Nat := (List.range bs.length).filter fun i => decide (bat bs i = x)
theorem idx_mem {bs : List Bow} {x : Bow} {i : Nat} : i ∈ idx bs x ↔ i < bs.length ∧ bat bs i = x := by
  unfold idx
  rw [List.mem_filter, List.mem_range, decide_eq_true_eq]
theorem map_bat (bs : List Bow) : (List.range bs.length).map (bat bs) = bs := by
  apply List.ext_getElem
  · rw [List.length_map, List.length_range]
  · intro i h1 h2
    rw [List.getElem_map, List.getElem_range]
    unfold bat
    rw [List.getD_eq_getElem?_getD, List.getElem?_eq_getElem h2]
    rfl
theorem idx_len (bs : List Bow) (x : Bow) : (idx bs x).length = bs.count x := by
  unfold idx
  conv => rhs; rw [← map_bat bs]
  rw [List.count, List.countP_map, List.countP_eq_length_filter]
  congr 1
  refine List.filter_congr fun i _ => ?_
  show decide _ = (bat bs i == x)
  rw [Bool.eq_iff_iff]
  simp
theorem bat_mem {bs : List Bow} {i : Nat} (h : i < bs.length) : bat bs i ∈ bs := by
  unfold bat
  rw [List.getD_eq_getElem?_getD, List.getElem?_eq_getElem h]
  exact List.getElem_mem h
theorem mem_bat {bs : List Bow} {x : Bow} (h : x ∈ bs) : ∃ i, i < bs.length ∧ bat bs i = x := by
  obtain ⟨i, hi, e⟩ := List.mem_iff_getElem.mp h
  refine ⟨i, hi, ?_⟩
  unfold bat
  rw [List.getD_eq_getElem?_getD, List.getElem?_eq_getElem hi]
  exact e
theorem idx_sorted (bs : List Bow) (x : Bow) : (idx bs x).Pairwise (· < ·) := List.Pairwise.filter _ List.pairwise_lt_range
section
variable {bs xs : List Bow} {sm : Bool} {S : Nat → Bool}
/-- the bows at the indexes of a set are no more than w tells -/
theorem set_sum (hx : xs.Nodup) (hm : ∀ x ∈ bs, x ∈ xs) (h1 : sm = true → ∀ i j, i < bs.length → j < bs.length → S i = true → S j = true → i ≠ j → bat bs i ≠ bat bs j) :
    ∃ X : List Bow, X.Nodup ∧ (∀ x ∈ X, x ∈ xs ∧ ∃ i, i < bs.length ∧ S i = true ∧ bat bs i = x) ∧ (cnt S bs.length : Int) ≤ (X.map (wOf bs sm)).sum := by
  have nX : (xs.filter fun x => ((listOf S bs.length).map (bat bs)).contains x).Nodup := List.Pairwise.filter _ hx
  have hX : ∀ x, x ∈ (xs.filter fun x => ((listOf S bs.length).map (bat bs)).contains x) ↔ x ∈ xs ∧ x ∈ (listOf S bs.length).map (bat bs) := fun x => by
    rw [List.mem_filter, List.contains_iff_mem]
  refine ⟨_, nX, fun x hx' => ?_, ?_⟩
  · obtain ⟨a, b⟩ := (hX x).mp hx'
    obtain ⟨i, hi, e⟩ := List.mem_map.mp b
    obtain ⟨h2, h3⟩ := listOf_mem.mp hi
    exact ⟨a, i, h2, h3, e⟩
  · have hl : (cnt S bs.length : Int) = (((listOf S bs.length).map (bat bs)).length : Int) := by rw [List.length_map, listOf_len]
    rw [hl, length_counts _ _ nX fun y hy => (hX y).mpr ⟨?_, hy⟩]
    · refine sum_mono _ fun x _ => ?_
      unfold wOf
      by_cases hs : sm = true
      · rw [if_pos hs]
        have nd : ((listOf S bs.length).map (bat bs)).Nodup := List.pairwise_map.mpr ((listOf_nodup S bs.length).imp_of_mem fun {a b} ha hb hab => by
          obtain ⟨a1, a2⟩ := listOf_mem.mp ha
          obtain ⟨b1, b2⟩ := listOf_mem.mp hb
          exact h1 hs a b a1 b1 a2 b2 hab)
        have := List.nodup_iff_count.mp nd x
        omega
      · rw [if_neg hs]
        have sl : ((listOf S bs.length).map (bat bs)).Sublist bs := by
          conv => rhs; rw [← map_bat bs]
          exact (List.filter_sublist).map _
        have := sl.count_le x
        omega
    · obtain ⟨i, hi, e⟩ := List.mem_map.mp hy
      rw [← e]
      exact hm _ (bat_mem (listOf_mem.mp hi).1)
variable {u v : Int → Int} {mu pi : Pi} {M : List Bow}
theorem ends_bound (hx : xs.Nodup) (hm : ∀ x ∈ bs, x ∈ xs) (D : Du xs (wOf bs sm) u v mu pi) (hf : ∀ x ∈ xs, 0 < u x.1 → (mu x.1).isSome = true) (hM : ∀ b e, (b, e) ∈ M ↔ mu b = some e)
    (hS : ∀ i j, i < bs.length → j < bs.length → S i = true → S j = true → i ≠ j → OkE sm (bat bs i) (bat bs j)) : (cnt S bs.length : Int) ≤ (M.map (wOf bs sm)).sum := by
  obtain ⟨X, nX, hX, hc⟩ := set_sum (S := S) (sm := sm) hx hm fun hs i j hi hj si sj ne e => by
    rcases hS i j hi hj si sj ne with h | h
    · exact h.1 (by rw [e])
    · rw [hs] at h; cases h.2
  have dif : ∀ x ∈ X, ∀ y ∈ X, x ≠ y → x.1 ≠ y.1 ∧ x.2 ≠ y.2 := fun x hx y hy ne => by
    obtain ⟨_, i, hi, si, rfl⟩ := hX x hx
    obtain ⟨_, j, hj, sj, rfl⟩ := hX y hy
    rcases hS i j hi hj si sj (fun e => ne (by rw [e])) with h | h
    · exact h
    · exact absurd h.1 ne
  have n1 : (X.map (·.1)).Nodup := List.pairwise_map.mpr (nX.imp_of_mem fun {a b} ha hb hab => (dif a ha b hb hab).1)
  have n2 : (X.map (·.2)).Nodup := List.pairwise_map.mpr (nX.imp_of_mem fun {a b} ha hb hab => (dif a ha b hb hab).2)
  have a1 : (X.map (wOf bs sm)).sum ≤ (X.map fun x => u x.1 + v x.2).sum := sum_mono X fun x hx' => D.cov x (hX x hx').1
  have a2 := sum_add (f := fun x : Bow => u x.1) (g := fun x : Bow => v x.2) X
  have a3 : ((X.map (·.1)).map u).sum ≤ ((M.map (·.1)).map u).sum := sum_le _ _ n1 (fun b hb hu => by
    obtain ⟨x, hx', rfl⟩ := List.mem_map.mp hb
    obtain ⟨e, he⟩ := Option.isSome_iff_exists.mp (hf x (hX x hx').1 hu)
    exact List.mem_map.mpr ⟨_, (hM _ _).mpr he, rfl⟩) fun b hb => by
      obtain ⟨x, hx', rfl⟩ := List.mem_map.mp hb
      exact D.u0 _ (D.edge _ _ ((hM x.1 x.2).mp hx')).1
  have a4 : ((X.map (·.2)).map v).sum ≤ ((M.map (·.2)).map v).sum := sum_le _ _ n2 (fun e he hv => by
    obtain ⟨x, hx', rfl⟩ := List.mem_map.mp he
    obtain ⟨b, hb⟩ := Option.isSome_iff_exists.mp (D.vm x (hX x hx').1 hv)
    exact List.mem_map.mpr ⟨_, (hM _ _).mpr (D.bwd _ _ hb), rfl⟩) fun e he => by
      obtain ⟨x, hx', rfl⟩ := List.mem_map.mp he
      exact D.v0 _ (D.edge _ _ ((hM x.1 x.2).mp hx')).1
  have a5 := sum_add (f := fun x : Bow => u x.1) (g := fun x : Bow => v x.2) M
  have a6 : (M.map fun x => u x.1 + v x.2) = M.map (wOf bs sm) := List.map_congr_left fun x hx' => (D.edge x.1 x.2 ((hM x.1 x.2).mp hx')).2
  rw [List.map_map] at a3 a4
  rw [List.map_map] at a3 a4
  rw [← a6, a5]
  have e1 : (X.map (u ∘ fun x : Bow => x.1)) = X.map fun x : Bow => u x.1 := rfl
  have e2 : (X.map (v ∘ fun x : Bow => x.2)) = X.map fun x : Bow => v x.2 := rfl
  have e3 : (M.map (u ∘ fun x : Bow => x.1)) = M.map fun x : Bow => u x.1 := rfl
  have e4 : (M.map (v ∘ fun x : Bow => x.2)) = M.map fun x : Bow => v x.2 := rfl
  rw [e1, e3] at a3
  rw [e2, e4] at a4
  omega
/-- the indexes that are told -/
def picks (bs : List Bow) (sm : Bool) (x : Bow) : List Nat := if sm = true then (idx bs x).take 1 else idx bs x
def found (bs : List Bow) (sm : Bool) (M : List Bow) : List Nat := M.flatMap (picks bs sm)
theorem picks_mem {x : Bow} {i : Nat} (h : i ∈ picks bs sm x) : i < bs.length ∧ bat bs i = x := by
  unfold picks at h
  split at h
  · exact idx_mem.mp (List.mem_of_mem_take h)
  · exact idx_mem.mp h
theorem picks_len {x : Bow} (hx : x ∈ bs) : ((picks bs sm x).length : Int) = wOf bs sm x := by
  unfold picks wOf
  split
  · rw [List.length_take, idx_len]
    have := List.count_pos_iff.mpr hx
    omega
  · rw [idx_len]
theorem picks_nodup (bs : List Bow) (sm : Bool) (x : Bow) : (picks bs sm x).Nodup := by
  have h : (idx bs x).Nodup := (idx_sorted bs x).imp fun h => Nat.ne_of_lt h
  unfold picks
  split
  · exact h.sublist (List.take_sublist _ _)
  · exact h
theorem found_len : ∀ {M : List Bow}, (∀ x ∈ M, x ∈ bs) → ((found bs sm M).length : Int) = (M.map (wOf bs sm)).sum
  | [], _ => rfl
  | x :: M, h => by
    unfold found
    rw [List.flatMap_cons, List.length_append, List.map_cons, List.sum_cons, ← picks_len (sm := sm) (h x (List.mem_cons_self ..)), ← found_len fun y hy => h y (List.mem_cons_of_mem _ hy)]
    unfold found
    omega
theorem one_pick {x : Bow} (hs : sm = true) {i j : Nat} (hi : i ∈ picks bs sm x) (hj : j ∈ picks bs sm x) : i = j := by
  unfold picks at hi hj
  rw [if_pos hs] at hi hj
  match idx bs x, hi, hj with
  | [], hi, _ => exact absurd hi List.not_mem_nil
  | a :: l, hi, hj =>
    simp only [List.take_succ_cons, List.take_zero, List.mem_singleton] at hi hj
    rw [hi, hj]
theorem ends_most {G : Nat → Nat → Bool} (hx : xs.Nodup) (hm : ∀ x, x ∈ bs ↔ x ∈ xs) (D : Du xs (wOf bs sm) u v mu pi) (hf : ∀ x ∈ xs, 0 < u x.1 → (mu x.1).isSome = true) (hM : ∀ b e, (b, e) ∈ M ↔ mu b = some e) (nM : M.Nodup)
    (hG : ∀ i j, i < bs.length → j < bs.length → i ≠ j → (G i j = true ↔ OkE sm (bat bs i) (bat bs j))) : IsMost G bs.length 1 (found bs sm M).length := by
  have inb : ∀ x ∈ M, x ∈ bs := fun x hx' => (hm x).mpr (D.edge x.1 x.2 ((hM x.1 x.2).mp hx')).1
  have key : ∀ i j, i ∈ found bs sm M → j ∈ found bs sm M → i ≠ j → OkE sm (bat bs i) (bat bs j) := fun i j hi hj ne => by
    obtain ⟨x, hx', h1⟩ := List.mem_flatMap.mp hi
    obtain ⟨y, hy', h2⟩ := List.mem_flatMap.mp hj
    obtain ⟨_, e1⟩ := picks_mem h1
    obtain ⟨_, e2⟩ := picks_mem h2
    rw [e1, e2]
    have mx := (hM x.1 x.2).mp hx'
    have my := (hM y.1 y.2).mp hy'
    by_cases e : x = y
    · subst e
      refine .inr ⟨rfl, ?_⟩
      cases hs : sm with
      | false => rfl
      | true => exact absurd (one_pick hs h1 h2) ne
    · refine .inl ⟨fun z => e ?_, fun z => e ?_⟩
      · rw [z, my] at mx
        injection mx with mx
        exact Prod.ext z mx.symm
      · have px := D.fwd _ _ mx
        rw [z, D.fwd _ _ my] at px
        injection px with px
        exact Prod.ext px.symm z
  refine most_of ?_ (fun i hi => ?_) (fun i hi j hj ne => ?_) fun S hS => ?_
  · unfold found
    refine List.pairwise_flatMap.mpr ⟨fun x _ => picks_nodup bs sm x, nM.imp fun {x y} ne i h1 j h2 e => ne ?_⟩
    rw [← (picks_mem h1).2, ← (picks_mem h2).2, e]
  · obtain ⟨x, _, h1⟩ := List.mem_flatMap.mp hi
    exact (picks_mem h1).1
  · obtain ⟨x, _, h1⟩ := List.mem_flatMap.mp hi
    obtain ⟨y, _, h2⟩ := List.mem_flatMap.mp hj
    exact (hG i j (picks_mem h1).1 (picks_mem h2).1 ne).mpr (key i j hi hj ne)
  · have h1 := ends_bound (S := S) hx (fun x h => (hm x).mp h) D hf hM fun i j hi hj si sj ne => (hG i j hi hj ne).mp (hS i j hi hj si sj ne)
    have h2 := found_len (sm := sm) inb
    omega
end
end Bw
end
section
set_option linter.all false
set_option maxRecDepth 100000
set_option maxHeartbeats 4000000
/-! Layers of bows with a common begin or end. -/
namespace Bw
/-- two bows of a layer with a common end -/
def OkC (sm : Bool) (x y : Bow) : Prop := (x ≠ y ∧ (x.1 = y.1 ∨ x.2 = y.2)) ∨ (x = y ∧ sm = false)
/-- the end of a bow at a side -/
def atS (s : Bool) (x : Bow) : Int := if s = true then x.2 else x.1
def endSum (bs xs : List Bow) (sm s : Bool) (p : Int) : Int := ((xs.filter fun x => decide (atS s x = p)).map (wOf bs sm)).sum
def firstB (bs : List Bow) (i : Nat) : Bool := !((List.range i).map (bat bs)).contains (bat bs i)
theorem firstB_iff {bs : List Bow} {i : Nat} : firstB bs i = true ↔ ∀ j, j < i → bat bs j ≠ bat bs i := by
  unfold firstB
  rw [Bool.not_eq_true', ← Bool.not_eq_true, List.contains_iff_mem, List.mem_map]
  exact ⟨fun h j hj e => h ⟨j, List.mem_range.mpr hj, e⟩, fun h ⟨j, hj, e⟩ => h j (List.mem_range.mp hj) e⟩
def atEnd (bs : List Bow) (sm s : Bool) (p : Int) : List Nat := (List.range bs.length).filter fun i => decide (atS s (bat bs i) = p) && (!sm || firstB bs i)
section
variable {bs xs : List Bow} {sm s : Bool} {p : Int} {S : Nat → Bool}
theorem first_ex {x : Bow} : ∀ i, bat bs i = x → ∃ j, j ≤ i ∧ bat bs j = x ∧ firstB bs j = true := fun i => by
  induction i using Nat.strongRecOn with
  | ind i ih =>
    intro hi
    by_cases h : firstB bs i = true
    · exact ⟨i, Nat.le_refl _, hi, h⟩
    · have h' : ¬ ∀ j, j < i → bat bs j ≠ bat bs i := fun q => h (firstB_iff.mpr q)
      obtain ⟨j, hj, e⟩ : ∃ j, j < i ∧ bat bs j = bat bs i := Classical.byContradiction fun q => h' fun j hj e => q ⟨j, hj, e⟩
      obtain ⟨k, h1, h2, h3⟩ := ih j hj (e.trans hi)
      exact ⟨k, by omega, h2, h3⟩
theorem atEnd_mem {i : Nat} : i ∈ atEnd bs sm s p ↔ i < bs.length ∧ atS s (bat bs i) = p ∧ (sm = true → firstB bs i = true) := by
  unfold atEnd
  rw [List.mem_filter, List.mem_range, Bool.and_eq_true, decide_eq_true_eq]
  cases sm <;> simp
theorem atEnd_sum (hx : xs.Nodup) (hm : ∀ x, x ∈ bs ↔ x ∈ xs) : endSum bs xs sm s p ≤ (atEnd bs sm s p).length := by
  have nX : (xs.filter fun x => decide (atS s x = p)).Nodup := List.Pairwise.filter _ hx
  have h1 := length_counts ((atEnd bs sm s p).map (bat bs)) _ nX fun y hy => by
    obtain ⟨i, hi, rfl⟩ := List.mem_map.mp hy
    obtain ⟨a, b, _⟩ := atEnd_mem.mp hi
    exact List.mem_filter.mpr ⟨(hm _).mp (bat_mem a), decide_eq_true b⟩
  rw [List.length_map] at h1
  rw [h1]
  refine sum_mono _ fun x hx' => ?_
  obtain ⟨a, b⟩ := List.mem_filter.mp hx'
  have b := of_decide_eq_true b
  unfold wOf
  by_cases hs : sm = true
  · rw [if_pos hs]
    obtain ⟨i, hi, e⟩ := mem_bat ((hm x).mpr a)
    obtain ⟨j, j1, j2, j3⟩ := first_ex i e
    have : 0 < ((atEnd bs sm s p).map (bat bs)).count x := List.count_pos_iff.mpr (List.mem_map.mpr ⟨j, atEnd_mem.mpr ⟨by omega, by rw [j2]; exact b, fun _ => j3⟩, j2⟩)
    omega
  · rw [if_neg hs]
    have hsub : (idx bs x).Sublist (atEnd bs sm s p) := by
      have e : idx bs x = (atEnd bs sm s p).filter fun i => decide (bat bs i = x) := by
        unfold idx atEnd
        rw [List.filter_filter]
        refine List.filter_congr fun i _ => ?_
        have hs' : sm = false := by simpa using hs
        by_cases q : bat bs i = x
        · rw [decide_eq_true q, hs', q, decide_eq_true b]; rfl
        · rw [decide_eq_false q]; rfl
      rw [e]
      exact List.filter_sublist
    have h2 := (hsub.map (bat bs)).count_le x
    have h3 : ((idx bs x).map (bat bs)).count x = (idx bs x).length := by
      rw [List.count_eq_length.mpr fun y hy => ?_, List.length_map]
      obtain ⟨i, hi, rfl⟩ := List.mem_map.mp hy
      exact (idx_mem.mp hi).2.symm
    rw [h3, idx_len] at h2
    omega
/-- a layer has a common end -/
theorem one_end (hS : ∀ i j, i < bs.length → j < bs.length → S i = true → S j = true → i ≠ j → OkC sm (bat bs i) (bat bs j)) : ∃ s p, ∀ i, i < bs.length → S i = true → atS s (bat bs i) = p := by
  by_cases he : ∃ i j, i < bs.length ∧ j < bs.length ∧ S i = true ∧ S j = true ∧ bat bs i ≠ bat bs j
  · obtain ⟨i, j, hi, hj, si, sj, ne⟩ := he
    have sh : ∀ a b, a < bs.length → b < bs.length → S a = true → S b = true → bat bs a = bat bs b ∨ (bat bs a).1 = (bat bs b).1 ∨ (bat bs a).2 = (bat bs b).2 := fun a b ha hb sa sb => by
      by_cases e : a = b
      · rw [e]; exact .inl rfl
      · rcases hS a b ha hb sa sb e with h | h
        · exact .inr h.2
        · exact .inl h.1
    rcases (sh i j hi hj si sj).resolve_left ne with h | h
    · refine ⟨false, (bat bs i).1, fun k hk sk => ?_⟩
      show (bat bs k).1 = _
      refine Classical.byContradiction fun nk => ?_
      have h1 := sh i k hi hk si sk
      have h2 := sh j k hj hk sj sk
      have e1 : (bat bs i).2 = (bat bs k).2 := by
        rcases h1 with q | q | q
        · rw [q]
        · exact absurd q.symm nk
        · exact q
      have e2 : (bat bs j).2 = (bat bs k).2 := by
        rcases h2 with q | q | q
        · rw [q]
        · exact absurd (q.symm.trans h.symm) nk
        · exact q
      exact ne (Prod.ext h (e1.trans e2.symm))
    · refine ⟨true, (bat bs i).2, fun k hk sk => ?_⟩
      show (bat bs k).2 = _
      refine Classical.byContradiction fun nk => ?_
      have h1 := sh i k hi hk si sk
      have h2 := sh j k hj hk sj sk
      have e1 : (bat bs i).1 = (bat bs k).1 := by
        rcases h1 with q | q | q
        · rw [q]
        · exact q
        · exact absurd q.symm nk
      have e2 : (bat bs j).1 = (bat bs k).1 := by
        rcases h2 with q | q | q
        · rw [q]
        · exact q
        · exact absurd (q.symm.trans h.symm) nk
      exact ne (Prod.ext (e1.trans e2.symm) h)
  · by_cases h0 : ∃ i, i < bs.length ∧ S i = true
    · obtain ⟨i, hi, si⟩ := h0
      refine ⟨false, (bat bs i).1, fun k hk sk => ?_⟩
      show (bat bs k).1 = _
      refine Classical.byContradiction fun nk => he ⟨k, i, hk, hi, sk, si, fun e => nk (by rw [e])⟩
    · exact ⟨false, 0, fun i hi si => absurd ⟨i, hi, si⟩ h0⟩
theorem end_bound (hx : xs.Nodup) (hm : ∀ x, x ∈ bs ↔ x ∈ xs) (hS : ∀ i j, i < bs.length → j < bs.length → S i = true → S j = true → i ≠ j → OkC sm (bat bs i) (bat bs j)) : ∃ s p, (cnt S bs.length : Int) ≤ endSum bs xs sm s p := by
  obtain ⟨s, p, h⟩ := one_end hS
  obtain ⟨X, nX, hX, hc⟩ := set_sum (S := S) (sm := sm) hx (fun x h => (hm x).mp h) fun hs i j hi hj si sj ne e => by
    rcases hS i j hi hj si sj ne with h | h
    · exact h.1 e
    · rw [hs] at h; cases h.2
  refine ⟨s, p, Int.le_trans hc ?_⟩
  unfold endSum
  refine sum_le X _ nX (fun x hx' _ => ?_) fun x _ => ?_
  · obtain ⟨a, i, hi, si, e⟩ := hX x hx'
    exact List.mem_filter.mpr ⟨a, decide_eq_true (by rw [← e]; exact h i hi si)⟩
  · unfold wOf
    split <;> omega
theorem atEnd_most {G : Nat → Nat → Bool} (hx : xs.Nodup) (hm : ∀ x, x ∈ bs ↔ x ∈ xs) (hp : ∀ s' p', endSum bs xs sm s' p' ≤ endSum bs xs sm s p)
    (hG : ∀ i j, i < bs.length → j < bs.length → i ≠ j → (G i j = true ↔ OkC sm (bat bs i) (bat bs j))) : IsMost G bs.length 1 (atEnd bs sm s p).length := by
  refine most_of ((List.Pairwise.filter _ List.pairwise_lt_range).imp fun h => Nat.ne_of_lt h) (fun i hi => (atEnd_mem.mp hi).1) (fun i hi j hj ne => ?_) fun S hS => ?_
  · obtain ⟨i1, i2, i3⟩ := atEnd_mem.mp hi
    obtain ⟨j1, j2, j3⟩ := atEnd_mem.mp hj
    refine (hG i j i1 j1 ne).mpr ?_
    by_cases e : bat bs i = bat bs j
    · refine .inr ⟨e, ?_⟩
      cases hs : sm with
      | false => rfl
      | true =>
        rcases Nat.lt_or_gt_of_ne ne with h | h
        · exact absurd e (firstB_iff.mp (j3 hs) i h)
        · exact absurd e.symm (firstB_iff.mp (i3 hs) j h)
    · refine .inl ⟨e, ?_⟩
      unfold atS at i2 j2
      cases s with
      | true => exact .inr (i2.trans j2.symm)
      | false => exact .inl (i2.trans j2.symm)
  · obtain ⟨s', p', h⟩ := end_bound (S := S) (sm := sm) hx hm fun i j hi hj si sj ne => (hG i j hi hj ne).mp (hS i j hi hj si sj ne)
    have h1 := hp s' p'
    have h2 := atEnd_sum (s := s) (p := p) (sm := sm) hx hm
    omega
end
end Bw
end
section
set_option Elab.async false
set_option linter.all false
set_option maxRecDepth 100000
set_option maxHeartbeats 4000000
namespace Bw
open PySem PySem.Spec PyProof.Rows L2
/-- a bow as a key -/
abbrev bk (x : Bow) : List Key := [Sum.inl x.1, Sum.inl x.2]
theorem bk_inj {x y : Bow} (h : bk x = bk y) : x = y := by
  injection h with h1 h2
  injection h2 with h2 _
  injection h1 with h1
  injection h2 with h2
  exact Prod.ext h1 h2
/-- entries, whatever they hold -/
abbrev entB {α : Type} (f : α → V) (c : Bow × α) : List Key × V := (bk c.1, f c.2)
theorem val_some {α : Type} {f : α → V} : ∀ {cs : List (Bow × α)} {c : Bow × α}, (cs.map (·.1)).Nodup → c ∈ cs → valV (cs.map (entB f)) (bk c.1) = some (f c.2)
  | d :: cs, c, hn, hc => by
    obtain ⟨n1, n2⟩ := List.nodup_cons.mp (show (d.1 :: cs.map (·.1)).Nodup from hn)
    rcases List.mem_cons.mp hc with e | e
    · subst e; exact valV_pos rfl
    · have ne : ¬ bk d.1 = bk c.1 := fun z => n1 (by rw [bk_inj z]; exact List.mem_map.mpr ⟨c, e, rfl⟩)
      exact (valV_neg (p := entB f d) ne).trans (val_some n2 e)
theorem val_none {α : Type} {f : α → V} : ∀ {cs : List (Bow × α)} {x : Bow}, x ∉ cs.map (·.1) → valV (cs.map (entB f)) (bk x) = none
  | [], _, _ => rfl
  | d :: cs, x, h => by
    have ne : ¬ bk d.1 = bk x := fun z => h (by rw [← bk_inj z]; exact List.mem_cons_self ..)
    exact (valV_neg (p := entB f d) ne).trans (val_none fun q => h (List.mem_cons_of_mem _ q))
theorem val_cases {α : Type} {f : α → V} {cs : List (Bow × α)} (x : Bow) (hn : (cs.map (·.1)).Nodup) : (∃ c ∈ cs, c.1 = x ∧ valV (cs.map (entB f)) (bk x) = some (f c.2)) ∨ (x ∉ cs.map (·.1) ∧ valV (cs.map (entB f)) (bk x) = none) := by
  by_cases h : x ∈ cs.map (·.1)
  · obtain ⟨c, hc, e⟩ := List.mem_map.mp h
    exact .inl ⟨c, hc, e, by rw [← e]; exact val_some hn hc⟩
  · exact .inr ⟨h, val_none h⟩
theorem nodup_len {α : Type} [BEq α] [LawfulBEq α] : ∀ (l l' : List α), l.Nodup → (∀ x ∈ l, x ∈ l') → l.length ≤ l'.length
  | [], _, _, _ => Nat.zero_le _
  | x :: l, l', h, hs => by
    obtain ⟨h1, h2⟩ := List.nodup_cons.mp h
    have hx : x ∈ l' := hs x (List.mem_cons_self ..)
    have := nodup_len l (l'.erase x) h2 fun y hy => (List.mem_erase_of_ne (fun e => h1 (by rw [← e]; exact hy))).mpr (hs y (List.mem_cons_of_mem _ hy))
    rw [List.length_erase_of_mem hx] at this
    have hp : 0 < l'.length := List.length_pos_of_mem hx
    rw [List.length_cons]
    omega
/-- the indexes below t -/
def idxTo (bs : List Bow) (t : Nat) (x : Bow) : List Nat := (List.range t).filter fun i => decide (bat bs i = x)
theorem idxTo_succ (bs : List Bow) (t : Nat) (x : Bow) : idxTo bs (t + 1) x = idxTo bs t x ++ (if bat bs t = x then [t] else []) := by
  unfold idxTo
  rw [List.range_succ, List.filter_append]
  congr 1
  by_cases h : bat bs t = x
  · rw [if_pos h, List.filter_cons, decide_eq_true h]; rfl
  · rw [if_neg h, List.filter_cons, decide_eq_false h]; rfl
theorem idxTo_none {bs : List Bow} {t : Nat} {x : Bow} (h : ∀ i, i < t → bat bs i ≠ x) : idxTo bs t x = [] := by
  unfold idxTo
  exact List.filter_eq_nil_iff.mpr fun i hi => by
    have := h i (List.mem_range.mp hi)
    simpa using this
theorem idxTo_le (bs : List Bow) (t : Nat) (x : Bow) : (idxTo bs t x).length ≤ t := by
  unfold idxTo
  exact Nat.le_trans (List.length_filter_le _ _) (by rw [List.length_range]; exact Nat.le_refl t)
/-- a dict comprehension with tuple keys, over a walk -/
theorem dcT_it {J : It} {n : Nat} {G : Hp → Prop} {Y : Nat → Hp → V → Hp → Prop} (w : Walk J n G Y) {g : TG} {tt : TT} {tk tv : TE} {vs : List Nat} {σ : L2.St} {H1 : Hp} {D : Addr} {Qd : Hp → Prop} (Pv : Nat → Hp → Prop) (h0 : Pv 0 (upd H1 D (.dT []))) (hG : ∀ i H, i ≤ n → Pv i H → G H)
    (hs : ∀ i x H H', i < n → Pv i H → Y i H x H' → g x (wipe σ vs) H' fun σ2 H2 => wipe σ2 vs = wipe σ vs ∧ tt σ2 H2 fun b H3 =>
      if b = true then tk σ2 H3 fun y H4 => tv σ2 H4 fun z H5 => ∃ kvs k b, y = .ref b ∧ H5 b = some (.tup (k.map kV)) ∧ H5 D = some (.dT kvs) ∧ kvs.length < sizeLine ∧ Pv (i + 1) (upd H5 D (.dT (putK kvs k z))) else Pv (i + 1) H3) (hd : ∀ H, Pv n H → Qd H) :
    ∃ W : Nat → Nat → Hp → Prop, (∃ m, W 0 m (upd H1 D (.dT []))) ∧ ∀ i m H, W i m H →
      (J.stop i H ∧ Qd H) ∨ (J.go i H ∧ ∃ Nx : Hp → Prop, (∀ H', Nx H' → ∃ m', m' < m ∧ W (i + 1) m' H') ∧ ∀ x H', J.yld i H x H' → g x (wipe σ vs) H' fun σ2 H2 => wipe σ2 vs = wipe σ vs ∧ tt σ2 H2 fun b H3 =>
        if b = true then tk σ2 H3 fun y H4 => tv σ2 H4 fun z H5 => ∃ kvs k b, y = .ref b ∧ H5 b = some (.tup (k.map kV)) ∧ H5 D = some (.dT kvs) ∧ kvs.length < sizeLine ∧ Nx (upd H5 D (.dT (putK kvs k z))) else Nx H3) := by
  refine ⟨fun i m H => m = n - i ∧ i ≤ n ∧ Pv i H, ⟨n, by simp, Nat.zero_le _, h0⟩, ?_⟩
  rintro i m H ⟨rfl, hi, p⟩
  have q := hG i H hi p
  by_cases hlt : i < n
  · exact .inr ⟨w.goes i H hlt q, Pv (i + 1), fun H' p' => ⟨n - (i + 1), by omega, rfl, hlt, p'⟩, fun x H' y => hs i x H H' hlt p (w.yields i H x H' hlt q y)⟩
  · have e : i = n := by omega
    subst e
    exact .inl ⟨w.stops H q, hd H p⟩
/-- the copies of bows: each bow with the list of its indexes -/
structure CopD (H : Hp) (d : Addr) (od : Obj) (cs : List (Bow × Addr)) (bs : List Bow) : Prop where
  at_ : H d = some (.frz od (.dT (cs.map (entB V.ref))))
  nd : (cs.map (·.1)).Nodup
  mem : ∀ x, x ∈ cs.map (·.1) ↔ x ∈ bs
  ls : ∀ c ∈ cs, H c.2 = some (nO (idx bs c.1))
theorem CopD.same {H H' : Hp} {d : Addr} {od : Obj} {cs : List (Bow × Addr)} {bs : List Bow} (h : CopD H d od cs bs) (e : Same H H') : CopD H' d od cs bs := ⟨e _ _ h.at_, h.nd, h.mem, fun c hc => e _ _ (h.ls c hc)⟩
/-- the weights of bows -/
structure WgtD (H : Hp) (d : Addr) (od : Obj) (xs : List Bow) (bs : List Bow) (sm : Bool) : Prop where
  at_ : H d = some (.frz od (.dT (xs.map fun x => (bk x, V.int (wOf bs sm x)))))
  nd : xs.Nodup
  mem : ∀ x, x ∈ bs ↔ x ∈ xs
theorem WgtD.same {H H' : Hp} {d : Addr} {od : Obj} {xs bs : List Bow} {sm : Bool} (h : WgtD H d od xs bs sm) (e : Same H H') : WgtD H' d od xs bs sm := ⟨e _ _ h.at_, h.nd, h.mem⟩
section
variable {w : World} {K : PySem.W.Frag} {mg : Str → Option Value} {base : Heap}
def spCopies (K : PySem.W.Frag) : Sp := fun vs H Q _ => ∃ (p : Addr) (bs : Bs), vs = [.ref p] ∧ RowAt K H p bs ∧ Trk H bs ∧ bs.length ≤ 1000 ∧
  ∀ d H' od cs, CopD H' d od cs bs.bows → Same H H' → Q (.ref d) H'
theorem upd_same2 {H0 H : Hp} {x : Addr} {o : HO} (hx : H0 x = none) (sm : Same H0 H) : Same H0 (upd H x o) := fun y o' e => by
  rw [upd_ne (ne_of_none e hx)]
  exact sm _ _ e
theorem sc_copies_of : FnScope ["row", "found", "index", "one"] ["row"] (defScope s_copies_of) := ⟨rfl, rfl, rfl, by decide +kernel, rfl, by decide +kernel, by decide +kernel⟩
theorem ok_copies_of (c : Cy w K mg base) : Dn PG w K mg base "copies_of" 4 ["row"] (spCopies K) := by
  obtain ⟨fd, F⟩ := c.fd_copies_of
  have D_Row___iter__ := ok_Row_iter c
  refine ⟨walkD F sc_copies_of (fun vs H Q E h => ?_) (fun cdv A outer s H vs Q E hr h => ?_) fun _ _ _ _ _ _ us hl => match us, hl with | [_], _ => rfl, c.m_copies_of, F.kp⟩
  · obtain ⟨a, b, rfl, _⟩ := h
    rfl
  · obtain ⟨p, bs, rfl, hR, hT, hlen, Qk⟩ := h
    have hu := hu_of hr
    obtain ⟨dx, l, hp, hl⟩ := hR.ex
    have b1000 : (1000 : Nat) < sizeLine := by decide
    refine ⟨_, (pss_cons (ps_set (i := 1) sc_copies_of.nd rfl (by first | exact Or.inl rfl | exact Or.inr rfl) pe_dnewT)
      (pss_cons (ps_for PassesOwn.never rfl (Dt.enum (K0 := K) (by rfl) D_Row___iter__ (hr.mono (by decide)) (by rfl) c.f_enumerate (pa_cons (pv 0) pa_nil)) (pg_tup_k (K0 := K) (n := 2) (by rfl) (by rfl) (pgs_cons (pg_name (i := 2) sc_copies_of.nd rfl (by first | exact Or.inl rfl | exact Or.inr rfl)) (pgs_cons (pg_name (i := 3) sc_copies_of.nd rfl (by first | exact Or.inl rfl | exact Or.inr rfl)) pgs_nil))) (pss_one (ps_expr (pe_bm_k (K0 := K) (by rfl) PySem.F.plainAttrs_list PySem.F.slot_list_append PySem.F.type_list_append mt_append (pe_dsetT hu (pv 1) (pv 3) (pe_lst pa_nil) ⟨rfl, rfl, rfl, rfl⟩) (pa_cons (pv 2) pa_nil)))))
      (pss_one (ps_ret (pe_frz (pe_dcT hu rfl sc_copies_of.nd (pi_list_k (K0 := K) (by rfl) (pe_callB (cr_sortedDT rfl) (by rfl) c.f_sorted (by decide +kernel) (pa_cons (pv 1) pa_nil))) (blkOk_by (own := [("one", 3)]) (by show blkC ["row", "found", "index", "one"] (defScope s_copies_of) _ _ = true; decide +kernel)) (fun _ _ _ _ _ => (pg_name (i := 3) sc_copies_of.nd rfl (by first | exact Or.inl rfl | exact Or.inr rfl))) (fun _ _ _ _ _ => pts_nil) (fun _ _ _ _ _ => (pv 3)) (fun _ _ _ _ _ => (pe_dget hu (pv 1) (pv 3) (fun _ _ => rfl))))))))), ?_⟩
    refine fun D hD => ?_
    have sD := same_upd (o := .dT []) hD
    refine ⟨_, rfl, p, dx, l, _, bs.vs, rfl, sD _ _ hp, rfl, .inl (.inl (sD _ _ hl)), ?_⟩
    have lvs : bs.vs.length = bs.length := List.length_map ..
    have lbw : bs.bows.length = bs.length := List.length_map ..
    refine for_it (walk_enum (K := K) (a := l) (xs := bs.vs)) (D := { nx := _, rt := Q }) (fun t σ H' => ∃ (x2 x3 : Option V) (cs : List (Bow × Addr)), σ = [some (.ref p), some (.ref D), x2, x3] ∧ Same H H' ∧ H' D = some (.dT (cs.map (entB V.ref))) ∧ (cs.map (·.1)).Nodup ∧ (cs.map (·.2)).Nodup ∧ cs.length ≤ t ∧ (∀ x, x ∈ cs.map (·.1) ↔ ∃ i, i < t ∧ bat bs.bows i = x) ∧ ∀ c ∈ cs, H c.2 = none ∧ H' c.2 = some (nO (idxTo bs.bows t c.1))) ?_ ?_ ?_ ?_
    · exact ⟨_, _, [], rfl, sD, upd_same, List.nodup_nil, List.nodup_nil, Nat.le_refl _, fun x => ⟨fun h => absurd h List.not_mem_nil, fun ⟨i, hi, _⟩ => absurd hi (Nat.not_lt_zero _)⟩, fun c hc => absurd hc List.not_mem_nil⟩
    · rintro t σ H' _ ⟨_, _, _, _, sm, _⟩
      exact .inl (.inl (sm _ _ hl))
    · rintro t x σ H' H4 ht ⟨x2, x3, cs, rfl, sm, hDd, n1, n2, lc, mc, ls⟩ ⟨T, y1, y2, rfl, hTn, rfl, g1, g2⟩
      have htn : t < bs.length := by omega
      obtain rfl : V.int (t : Nat) = y1 := by injection g1
      obtain ⟨b, hb⟩ : ∃ b, bs[t]? = some b := ⟨_, List.getElem?_eq_getElem htn⟩
      obtain rfl : V.ref b.1 = y2 := by
        have g3 : bs.vs[t]? = some y2 := g2
        rw [List.getElem?_map, hb] at g3
        injection g3
      have bmem := List.mem_of_getElem? hb
      have hbt : bat bs.bows t = b.2 := by
        unfold bat Bs.bows
        rw [List.getD_eq_getElem?_getD, List.getElem?_map, hb]
        rfl
      have sT : Same H' (upd H' T (.tup [V.int (t : Nat), V.ref b.1])) := same_upd hTn
      have eT : (upd H' T (.tup [V.int (t : Nat), V.ref b.1])) T = some (.tup [V.int (t : Nat), V.ref b.1]) := upd_same
      have hD4 := sT _ _ hDd
      have ls4 : ∀ c ∈ cs, H c.2 = none ∧ (upd H' T (.tup [V.int (t : Nat), V.ref b.1])) c.2 = some (nO (idxTo bs.bows t c.1)) := fun c hc => ⟨(ls c hc).1, sT _ _ (ls c hc).2⟩
      have sm4 := sm.trans sT
      generalize upd H' T (.tup [V.int (t : Nat), V.ref b.1]) = H4 at sT eT hD4 ls4 sm4 ⊢
      refine ⟨T, _, rfl, .inl (.inl eT), rfl, _, _, rfl, _, _, rfl, rfl, ?_⟩
      refine ⟨_, rfl, D, rfl, .inr ⟨_, .inl hD4⟩, _, rfl, Nat.zero_le _, fun U hU => ?_⟩
      have sU := same_upd (o := .lst []) hU
      have eU : (upd H4 U (.lst [])) U = some (nO []) := upd_same
      have hD5 := sU _ _ hD4
      have sm5 := sm4.trans sU
      have ls5 : ∀ c ∈ cs, H c.2 = none ∧ (upd H4 U (.lst [])) c.2 = some (nO (idxTo bs.bows t c.1)) := fun c hc => ⟨(ls4 c hc).1, sU _ _ (ls4 c hc).2⟩
      have HU : H U = none := by cases e : H U with | none => rfl | some o => rw [sm4 _ _ e] at hU; cases hU
      have csU : ∀ c ∈ cs, c.2 ≠ U := fun c hc => ne_of_none (ls4 c hc).2 hU
      have hDH : H D = none := hD
      have DneU : D ≠ U := ne_of_none hD4 hU
      generalize upd H4 U (.lst []) = H5 at sU eU hD5 sm5 ls5 ⊢
      have hbt5 : H5 b.1 = some (.tup ((bk b.2).map kV)) := sm5 _ _ (hT b bmem)
      refine ⟨_, bk b.2, b.1, hD5, rfl, hbt5, by rw [List.length_map]; omega, fun v hv => ?_, fun hv => ?_⟩
      · -- the bow was there
        rcases val_cases (f := V.ref) b.2 n1 with ⟨cc, hcc, ec, e⟩ | ⟨_, e⟩
        · rw [e] at hv
          injection hv with hv
          subst hv
          have lcc := (ls5 cc hcc).2
          have ll := idxTo_le bs.bows t cc.1
          refine ⟨.inl ⟨rfl, _, .inl (.inl lcc)⟩, _, rfl, cc.2, _, _, rfl, rfl, lcc, by rw [List.length_map]; omega, ?_⟩
          have ccD : cc.2 ≠ D := fun z => by rw [z, hD5] at lcc; cases lcc
          refine ⟨_, _, cs, rfl, upd_same2 (ls cc hcc).1 sm5, by rw [upd_ne ccD.symm]; exact hD5, n1, n2, by omega, fun x => ?_, fun c hc => ⟨(ls5 c hc).1, ?_⟩⟩
          · rw [mc x]
            refine ⟨fun ⟨i, hi, e⟩ => ⟨i, by omega, e⟩, fun ⟨i, hi, e⟩ => ?_⟩
            by_cases it : i = t
            · subst it
              exact (mc x).mp (by rw [← e, hbt, ← ec]; exact List.mem_map.mpr ⟨cc, hcc, rfl⟩)
            · exact ⟨i, by omega, e⟩
          · rw [idxTo_succ, hbt]
            by_cases e2 : c.2 = cc.2
            · have e3 : c = cc := by
                obtain ⟨i, hi, rfl⟩ := List.mem_iff_getElem.mp hc
                obtain ⟨j, hj, rfl⟩ := List.mem_iff_getElem.mp hcc
                have := (List.getElem_inj (i := i) (j := j) (h₀ := by rw [List.length_map]; exact hi) (h₁ := by rw [List.length_map]; exact hj) n2).mp (by rw [List.getElem_map, List.getElem_map]; exact e2)
                subst this
                rfl
              rw [e3, upd_same, if_pos ec.symm]
              unfold nO nv
              rw [List.map_append]
              rfl
            · have ne1 : b.2 ≠ c.1 := fun z => e2 (by
                obtain ⟨i, hi, rfl⟩ := List.mem_iff_getElem.mp hc
                obtain ⟨j, hj, rfl⟩ := List.mem_iff_getElem.mp hcc
                have := (List.getElem_inj (i := i) (j := j) (h₀ := by rw [List.length_map]; exact hi) (h₁ := by rw [List.length_map]; exact hj) n1).mp (by rw [List.getElem_map, List.getElem_map]; exact z.symm.trans ec.symm)
                subst this
                rfl)
              rw [upd_ne e2, if_neg ne1, List.append_nil]
              exact (ls5 c hc).2
        · rw [e] at hv; cases hv
      · -- the bow is new
        rcases val_cases (f := V.ref) b.2 n1 with ⟨cc, hcc, ec, e⟩ | ⟨nm, e⟩
        · rw [e] at hv; cases hv
        · have nei : ∀ i, i < t → bat bs.bows i ≠ b.2 := fun i hi z => nm ((mc b.2).mpr ⟨i, hi, z⟩)
          rw [putK_new _ hv]
          have eU6 : (upd H5 D (.dT (cs.map (entB V.ref) ++ [(bk b.2, V.ref U)]))) U = some (nO []) := by rw [upd_ne DneU.symm]; exact eU
          refine ⟨.inl ⟨rfl, _, .inl (.inl eU6)⟩, _, rfl, U, _, _, rfl, rfl, eU6, by show 0 < sizeLine; decide, ?_⟩
          refine ⟨_, _, cs ++ [(b.2, U)], rfl, upd_same2 HU (upd_same2 hDH sm5), ?_, ?_, ?_, ?_, fun x => ?_, fun c hc => ?_⟩
          · rw [upd_ne DneU, upd_same, List.map_append]; rfl
          · rw [List.map_append]
            refine List.nodup_append.mpr ⟨n1, by simp, fun x hx y hy e => nm ?_⟩
            have : y = b.2 := by simpa using hy
            rw [← this, ← e]; exact hx
          · rw [List.map_append]
            refine List.nodup_append.mpr ⟨n2, by simp, fun x hx y hy e => ?_⟩
            obtain ⟨c, hc, rfl⟩ := List.mem_map.mp hx
            have : y = U := by simpa using hy
            exact csU c hc (e.trans this)
          · rw [List.length_append]; simp; exact lc
          · rw [List.map_append, List.mem_append, mc x]
            constructor
            · rintro (⟨i, hi, e⟩ | h)
              · exact ⟨i, by omega, e⟩
              · exact ⟨t, Nat.lt_succ_self t, by rw [hbt]; have : x = b.2 := (by simpa using h); exact this.symm⟩
            · rintro ⟨i, hi, e⟩
              by_cases it : i = t
              · subst it
                exact .inr (by rw [← e, hbt]; simp)
              · exact .inl ⟨i, by omega, e⟩
          · rcases List.mem_append.mp hc with h | h
            · have cD : c.2 ≠ D := fun z => by have := (ls5 c h).2; rw [z, hD5] at this; cases this
              refine ⟨(ls5 c h).1, ?_⟩
              rw [upd_ne (csU c h), upd_ne cD, idxTo_succ, hbt, if_neg (fun z => nm (by rw [z]; exact List.mem_map.mpr ⟨c, h, rfl⟩)), List.append_nil]
              exact (ls5 c h).2
            · have : c = (b.2, U) := by simpa using h
              subst this
              refine ⟨HU, ?_⟩
              show (upd _ U _) U = some (nO (idxTo bs.bows (t + 1) b.2))
              rw [upd_same, idxTo_succ, hbt, if_pos rfl, idxTo_none nei]
              rfl
    · rintro σ H' ⟨x2, x3, cs, rfl, sm, hDd, n1, n2, lc, mc, ls⟩
      rw [lvs] at lc mc ls
      have mc' : ∀ x, x ∈ cs.map (·.1) ↔ x ∈ bs.bows := fun x => by
        rw [mc x]
        exact ⟨fun ⟨i, hi, e⟩ => by rw [← e]; exact bat_mem (by omega), fun h => by obtain ⟨i, hi, e⟩ := mem_bat h; exact ⟨i, by omega, e⟩⟩
      have ls' : ∀ c ∈ cs, H' c.2 = some (nO (idx bs.bows c.1)) := fun c hc => by
        have := (ls c hc).2
        unfold idxTo at this
        unfold idx
        rw [lbw]; exact this
      refine ⟨_, rfl, D, _, rfl, .inl hDd, fun e he => ?_, fun L ks ks' hL ik pk => ?_⟩
      · obtain ⟨c, _, rfl⟩ := List.mem_map.mp he
        exact ⟨_, _, rfl⟩
      have lks : cs.length = ks.length := by have := Paired.length ik; rw [List.length_map] at this; exact this
      have sL := same_upd (o := .lst (ks'.map V.ref)) hL
      have eL : (upd H' L (.lst (ks'.map V.ref))) L = some (.lst (ks'.map V.ref)) := upd_same
      have hz : ∀ z ∈ cs.zip ks, H' z.2 = some (.tup ((bk z.1.1).map kV)) := fun z hz => by
        obtain ⟨j, hj⟩ := List.mem_iff_getElem?.mp hz
        obtain ⟨j1, j2⟩ := List.getElem?_zip_eq_some.mp hj
        obtain ⟨b', hb', e⟩ := L2.paired_get ik (i := j) (a := entB V.ref z.1) (by rw [List.getElem?_map, j1]; rfl)
        rw [j2] at hb'
        injection hb' with hb'
        rw [hb']; exact e
      obtain ⟨qs, pq, eq⟩ := perm_lift (fun z : (Bow × Addr) × Addr => z.2) pk (cs.zip ks) (List.map_snd_zip (by omega))
      have pq1 : (qs.map (·.1)).Perm cs := by
        have := pq.map (·.1)
        rw [List.map_fst_zip (by omega)] at this
        exact this
      have lq : qs.length = cs.length := by have := pq1.length_eq; rw [List.length_map] at this; exact this
      have nq : ((qs.map (·.1)).map (·.1)).Nodup := ((pq1.map (·.1)).nodup_iff).mpr n1
      subst eq
      generalize upd H' L (.lst ((qs.map fun z : (Bow × Addr) × Addr => z.2).map V.ref)) = H2 at sL eL ⊢
      refine ⟨L, rfl, ⟨_, .inl (.inl eL)⟩, fun D2 hD2 => ?_⟩
      refine dcT_it (walk_list (K := K) (a := L) (xs := (qs.map fun z : (Bow × Addr) × Addr => z.2).map V.ref)) (fun t H3 => Same H2 H3 ∧ H3 D2 = some (.dT (((qs.take t).map (·.1)).map (entB V.ref)))) ⟨same_upd hD2, by rw [upd_same]; rfl⟩ (fun t H3 _ h => .inl (.inl (h.1 _ _ eL))) (fun t x H3 H3' ht ⟨s3, d3⟩ hx => ?_) fun H3 ⟨s3, d3⟩ => ?_
      · obtain ⟨rfl, hx⟩ := hx
        rw [List.getElem?_map, List.getElem?_map] at hx
        obtain ⟨qa, hq1, hq2⟩ := Option.map_eq_some_iff.mp hx
        obtain ⟨q, hq, rfl⟩ := Option.map_eq_some_iff.mp hq1
        subst hq2
        have qm := List.mem_of_getElem? hq
        have qz : q ∈ cs.zip ks := pq.mem_iff.mp qm
        have qc : q.1 ∈ cs := pq1.mem_iff.mp (List.mem_map.mpr ⟨q, qm, rfl⟩)
        have s23 := sL.trans s3
        have hk3 := s23 _ _ (hz q qz)
        have hg : DGet H3' D (.ref q.2) (some (.ref q.1.2)) := by
          have := DGet.t (k := bk q.1.1) (s23 _ _ hDd) hk3
          rw [val_some n1 qc] at this
          exact this
        have htq : t < qs.length := (List.getElem?_eq_some_iff.mp hq).1
        have tk1 : (qs.take (t + 1)).map (·.1) = (qs.take t).map (·.1) ++ [q.1] := by
          rw [List.take_add_one, hq, List.map_append]; rfl
        have nn : q.1.1 ∉ ((qs.take t).map (·.1)).map (·.1) := fun hm => by
          have h1 : ((qs.take (t + 1)).map (·.1)).map (·.1) = ((qs.take t).map (·.1)).map (·.1) ++ [q.1.1] := by rw [tk1, List.map_append]; rfl
          have h2 : (((qs.take (t + 1)).map (·.1)).map (·.1)).Nodup := by
            rw [List.map_take, List.map_take]
            exact nq.sublist (List.take_sublist _ _)
          rw [h1] at h2
          exact (List.nodup_append.mp h2).2.2 _ hm _ (by simp) rfl
        refine ⟨rfl, _, rfl, _, rfl, _, rfl, D, _, rfl, hg, _, bk q.1.1, q.2, rfl, hk3, d3, ?_, fun b o e => ?_, ?_⟩
        · rw [List.length_map, List.length_map, List.length_take]; omega
        · rw [upd_ne (ne_of_none e hD2)]; exact s3 _ _ e
        · rw [upd_same, putK_new _ (val_none nn), tk1, List.map_append]; rfl
      · rw [List.length_map, List.length_map, List.take_length] at d3
        refine ⟨D2, _, rfl, d3, fun od => Qk D2 _ od (qs.map (·.1)) ⟨upd_same, nq, fun x => ?_, fun c hc => ?_⟩ fun b o e => ?_⟩
        · rw [(pq1.map (·.1)).mem_iff]; exact mc' x
        · have hcc := pq1.mem_iff.mp hc
          have h1 := s3 _ _ (sL _ _ (ls' c hcc))
          rw [upd_ne (fun z => by rw [z, d3] at h1; cases h1)]
          exact h1
        · have h1 := sL _ _ (sm _ _ e)
          rw [upd_ne (ne_of_none h1 hD2)]
          exact s3 _ _ h1
def spWeights (K : PySem.W.Frag) : Sp := fun vs H Q _ => ∃ (p : Addr) (bs : Bs) (sm : Bool), vs = [.ref p, .bl sm] ∧ RowAt K H p bs ∧ Trk H bs ∧ bs.length ≤ 1000 ∧
  ∀ d H' od xs, WgtD H' d od xs bs.bows sm → xs.length ≤ 1000 → Same H H' → Q (.ref d) H'
theorem sc_weights_of : FnScope ["row", "same", "one", "some"] ["row", "same"] (defScope s_weights_of) := ⟨rfl, rfl, rfl, by decide +kernel, rfl, by decide +kernel, by decide +kernel⟩
theorem ok_weights_of (c : Cy w K mg base) : Dn PG w K mg base "weights_of" 5 ["row", "same"] (spWeights K) := by
  obtain ⟨fd, F⟩ := c.fd_weights_of
  have D_copies_of := ok_copies_of c
  refine ⟨walkD F sc_weights_of (fun vs H Q E h => ?_) (fun cdv A outer s H vs Q E hr h => ?_) fun _ _ _ _ _ _ us hl => match us, hl with | [_, _], _ => rfl, c.m_weights_of, F.kp⟩
  · obtain ⟨a, b, _, rfl, _⟩ := h
    rfl
  · obtain ⟨p, bs, sm, rfl, hR, hT, hlen, Qk⟩ := h
    have hu := hu_of hr
    have b1000 : (1000 : Nat) < sizeLine := by decide
    refine ⟨_, (pss_one (ps_ret (pe_frz (pe_dcT hu rfl sc_weights_of.nd (pi_itemsT (D_copies_of.call (hr.mono (by decide)) rfl (pa_cons (pv 0) pa_nil))) (blkOk_by (own := [("one", 2), ("some", 3)]) (by show blkC ["row", "same", "one", "some"] (defScope s_weights_of) _ _ = true; decide +kernel)) (fun _ _ _ _ _ => (pg_tup_k (K0 := K) (n := 2) (by rfl) (by rfl) (pgs_cons (pg_name (i := 2) sc_weights_of.nd rfl (by first | exact Or.inl rfl | exact Or.inr rfl)) (pgs_cons (pg_name (i := 3) sc_weights_of.nd rfl (by first | exact Or.inl rfl | exact Or.inr rfl)) pgs_nil)))) (fun _ _ _ _ _ => pts_nil) (fun _ _ _ _ _ => (pv 2)) (fun _ _ _ _ _ => (pe_ifExp (pt_val (pv 1)) pe_int (pe_callB (call_len_seq_k (K0 := K) (by rfl)) (by rfl) c.f_len PySem.boot_len (pa_cons (pv 3) pa_nil)))))))), ?_⟩
    refine ⟨_, rfl, p, bs, rfl, hR, hT, hlen, fun d H1 od cs cd s1 => ?_⟩
    have lcs : cs.length ≤ bs.length := by
      have h1 : (cs.map (·.1)).length ≤ bs.bows.length := nodup_len _ _ cd.nd fun x hx => (cd.mem x).mp hx
      rw [List.length_map, List.length_map] at h1
      exact h1
    refine ⟨d, od, _, rfl, cd.at_, fun D2 hD2 => ?_⟩
    have ned : d ≠ D2 := ne_of_none cd.at_ hD2
    refine dcT_it walk_itemsT (fun t H3 => Same H1 H3 ∧ H3 D2 = some (.dT ((cs.take t).map fun c => (bk c.1, V.int (wOf bs.bows sm c.1))))) ⟨same_upd hD2, by rw [upd_same]; rfl⟩ (fun t H3 _ h => h.1 _ _ cd.at_) (fun t x H3 H3' ht ⟨s3, d3⟩ hx => ?_) fun H3 ⟨s3, d3⟩ => ?_
    · obtain ⟨T, k, v, q, hk, rfl, hTn, hq, rfl⟩ := hx
      rw [List.length_map] at ht
      rw [List.getElem?_map] at hk
      obtain ⟨cc, hc, ec⟩ := Option.map_eq_some_iff.mp hk
      injection ec with e1 e2
      subst e1 e2
      have cm := List.mem_of_getElem? hc
      have sT := same_upd (o := .tup [V.ref q, V.ref cc.2]) hTn
      have eT : (upd H3 T (.tup [V.ref q, V.ref cc.2])) T = some (.tup [V.ref q, V.ref cc.2]) := upd_same
      have s34 := s3.trans sT
      have d4 := sT _ _ d3
      have q4 := sT _ _ hq
      generalize upd H3 T (.tup [V.ref q, V.ref cc.2]) = H4 at sT eT s34 d4 q4 ⊢
      have tk1 : cs.take (t + 1) = cs.take t ++ [cc] := by rw [List.take_add_one, hc]; rfl
      have nn : cc.1 ∉ ((cs.take t).map (·.1)) := fun hm => by
        have h2 : ((cs.take (t + 1)).map (·.1)).Nodup := by
          rw [List.map_take]
          exact cd.nd.sublist (List.take_sublist _ _)
        rw [tk1, List.map_append] at h2
        exact (List.nodup_append.mp h2).2.2 _ hm _ (by simp) rfl
      have em : (cs.take t).map (fun c => (bk c.1, V.int (wOf bs.bows sm c.1))) = ((cs.take t).map fun c => (c.1, wOf bs.bows sm c.1)).map (entB V.int) := by rw [List.map_map]; rfl
      have fin : ∀ z, z = V.int (wOf bs.bows sm cc.1) → ∃ kvs k b, V.ref q = .ref b ∧ H4 b = some (.tup (k.map kV)) ∧ H4 D2 = some (.dT kvs) ∧ kvs.length < sizeLine ∧ (Same H1 (upd H4 D2 (.dT (putK kvs k z))) ∧ (upd H4 D2 (.dT (putK kvs k z))) D2 = some (.dT ((cs.take (t + 1)).map fun c => (bk c.1, V.int (wOf bs.bows sm c.1))))) := fun z hz => by
        refine ⟨_, bk cc.1, q, rfl, q4, d4, ?_, fun b o e => ?_, ?_⟩
        · rw [List.length_map, List.length_take]; omega
        · rw [upd_ne (ne_of_none e hD2)]; exact s34 _ _ e
        · rw [upd_same, hz, putK_new, tk1, List.map_append]
          · rfl
          · rw [em]
            exact val_none (by rw [List.map_map]; exact nn)
      refine ⟨T, _, rfl, .inl (.inl eT), rfl, _, _, rfl, _, _, rfl, rfl, rfl, ?_⟩
      refine ⟨_, rfl, _, rfl, sm, rfl, ?_⟩
      refine iteB (fun hs => ?_) (fun hs => ?_)
      · exact fin _ (by unfold wOf; rw [if_pos hs])
      · refine ⟨_, rfl, cc.2, _, rfl, .inl (.inl (.inl (s34 _ _ (cd.ls cc cm)))), ?_⟩
        refine fin _ ?_
        unfold wOf
        rw [if_neg (by rw [hs]; intro z; cases z), List.length_map, idx_len]
    · rw [List.length_map, List.take_length] at d3
      refine ⟨D2, _, rfl, d3, fun od2 => Qk D2 _ od2 (cs.map (·.1)) ⟨by rw [upd_same, List.map_map]; rfl, cd.nd, fun x => (cd.mem x).symm⟩ (by rw [List.length_map]; omega) fun b o e => ?_⟩
      have h1 := s1 _ _ e
      rw [upd_ne (ne_of_none h1 hD2)]
      exact s3 _ _ h1
end
end Bw
end
section
set_option Elab.async false
set_option linter.all false
set_option maxRecDepth 100000
set_option maxHeartbeats 4000000
/-! A dict from places, as a function; the fields of Ends. -/
namespace Bw
open PySem PySem.Spec PyProof.Rows L2
/-- a dict whose keys are places of a list -/
structure DI (H : Hp) (d : Addr) (L : List Int) (g : Int → Option V) : Prop where
  ex : ∃ kvs : List (Key × V), H d = some (.dK kvs) ∧ (kvs.map (·.1)).Nodup ∧ (∀ p ∈ kvs, ∃ i ∈ L, p.1 = Sum.inl i) ∧ ∀ i : Int, valV kvs (.inl i) = g i
theorem DI.nil {H : Hp} {d : Addr} (L : List Int) (h : H d = some (.dK [])) : DI H d L fun _ => none := ⟨[], h, List.nodup_nil, fun p hp => absurd hp List.not_mem_nil, fun _ => rfl⟩
theorem DI.same {H H' : Hp} {d : Addr} {L : List Int} {g : Int → Option V} (h : DI H d L g) (e : ∀ o, H d = some o → H' d = some o) : DI H' d L g := ⟨let ⟨kvs, h1, h2⟩ := h.ex; ⟨kvs, e _ h1, h2⟩⟩
theorem DI.congr {H : Hp} {d : Addr} {L : List Int} {g g' : Int → Option V} (h : DI H d L g) (e : ∀ i, g' i = g i) : DI H d L g' := by rw [funext e]; exact h
theorem DI.get {H : Hp} {d : Addr} {L : List Int} {g : Int → Option V} (h : DI H d L g) (j : Int) : DGet H d (.int j) (g j) := by
  obtain ⟨kvs, h1, _, _, h3⟩ := h.ex
  rw [← h3 j]
  exact DGet.k (k := .inl j) h1
theorem DI.isD {H : Hp} {d : Addr} {L : List Int} {g : Int → Option V} (h : DI H d L g) : ∃ kvs, H d = some (.dK kvs) := let ⟨kvs, h1, _⟩ := h.ex; ⟨kvs, h1⟩
theorem DI.isD' {H : Hp} {d : Addr} {L : List Int} {g : Int → Option V} (h : DI H d L g) : IsD H d := let ⟨kvs, h1⟩ := h.isD; .inl ⟨kvs, .inl h1⟩
theorem keys_len {kvs : List (Key × V)} {L : List Int} (h1 : (kvs.map (·.1)).Nodup) (h2 : ∀ p ∈ kvs, ∃ i ∈ L, p.1 = Sum.inl i) : kvs.length ≤ L.length := by
  have := @nodup_len Key instBEqOfDecidableEq inferInstance (kvs.map (·.1)) (L.map Sum.inl) h1 fun x hx => by
    obtain ⟨p, hp, rfl⟩ := List.mem_map.mp hx
    obtain ⟨i, hi, e⟩ := h2 p hp
    exact List.mem_map.mpr ⟨i, hi, e.symm⟩
  rwa [List.length_map, List.length_map] at this
theorem keys_putK_has {kvs : List (Key × V)} {k : Key} {v : V} (h : (valV kvs k).isSome = true) : (putK kvs k v).map (·.1) = kvs.map (·.1) := by
  unfold putK
  rw [valV_any, if_pos h, List.map_map]
  refine List.map_congr_left fun p _ => ?_
  show (if p.1 = k then (p.1, v) else p).1 = p.1
  split <;> rfl
theorem DI.put {H : Hp} {d : Addr} {L : List Int} {g : Int → Option V} (h : DI H d L g) {j : Int} (hj : j ∈ L) (hL : L.length ≤ 1000) (v : V) :
    ∃ o, DPut H d (.int j) v (upd H d o) ∧ DI (upd H d o) d L fun i => if i = j then some v else g i := by
  have b1000 : (1000 : Nat) < sizeLine := by decide
  obtain ⟨kvs, h1, h2, h3, h4⟩ := h.ex
  have hl := keys_len h2 h3
  refine ⟨.dK (putK kvs (.inl j) v), .inl ⟨kvs, .inl j, h1, rfl, by omega, rfl⟩, ⟨_, upd_same, ?_, fun p hp => ?_, fun i => ?_⟩⟩
  · cases e : valV kvs (.inl j) with
    | none => exact nd_putK v h2 e
    | some x => rw [keys_putK_has (by rw [e]; rfl)]; exact h2
  · cases e : valV kvs (.inl j) with
    | none =>
      rw [putK_new v e] at hp
      rcases List.mem_append.mp hp with q | q
      · exact h3 p q
      · have : p = (.inl j, v) := by simpa using q
        rw [this]; exact ⟨j, hj, rfl⟩
    | some x =>
      have q : p.1 ∈ (putK kvs (.inl j) v).map (·.1) := List.mem_map.mpr ⟨p, hp, rfl⟩
      rw [keys_putK_has (by rw [e]; rfl)] at q
      obtain ⟨p', hp', e'⟩ := List.mem_map.mp q
      obtain ⟨i, hi, e2⟩ := h3 p' hp'
      exact ⟨i, hi, by rw [← e', e2]⟩
  · rw [valV_put, h4]
    by_cases e : i = j
    · rw [if_pos (by rw [e]), if_pos e]
    · rw [if_neg (fun z => e (by injection z)), if_neg e]
theorem valV_drop : ∀ (kvs : List (Key × V)) (k j : Key), valV (dropK kvs k) j = if j = k then none else valV kvs j
  | [], k, j => by split <;> rfl
  | p :: r, k, j => by
    by_cases e : p.1 = k
    · rw [dropK_pos e, valV_drop r k j]
      by_cases z : j = k
      · rw [if_pos z, if_pos z]
      · rw [if_neg z, if_neg z, valV_neg fun q => z (by rw [← q, e])]
    · rw [dropK_neg e]
      by_cases z : p.1 = j
      · rw [valV_pos z, if_neg (fun q => e (by rw [z, q])), valV_pos z]
      · rw [valV_neg z, valV_drop r k j, valV_neg z]
theorem DI.pop {H : Hp} {d : Addr} {L : List Int} {g : Int → Option V} (h : DI H d L g) {j : Int} {v : V} (hv : g j = some v) :
    ∃ kvs : List (Key × V), H d = some (.dK kvs) ∧ valV kvs (.inl j) = some v ∧ DI (upd H d (.dK (dropK kvs (.inl j)))) d L fun i => if i = j then none else g i := by
  obtain ⟨kvs, h1, h2, h3, h4⟩ := h.ex
  refine ⟨kvs, h1, (h4 j).trans hv, ⟨_, upd_same, nd_dropK h2, fun p hp => h3 p (dropK_mem hp), fun i => ?_⟩⟩
  rw [valV_drop, h4]
  by_cases e : i = j
  · rw [if_pos (by rw [e]), if_pos e]
  · rw [if_neg (fun z => e (by injection z)), if_neg e]
/-- its keys, in their order -/
theorem DI.keys {H : Hp} {d : Addr} {L : List Int} {g : Int → Option V} (h : DI H d L g) : ∃ (kvs : List (Key × V)) (ks : List Int), H d = some (.dK kvs) ∧ kvs.map (·.1) = ks.map Sum.inl ∧ ks.Nodup ∧ (∀ i, i ∈ ks ↔ (g i).isSome = true) ∧ kvs.length ≤ L.length := by
  obtain ⟨kvs, h1, h2, h3, h4⟩ := h.ex
  have hk : kvs.map (·.1) = (kvs.map fun p => match p.1 with | .inl i => i | .inr _ => (0 : Int)).map Sum.inl := by
    rw [List.map_map]
    refine List.map_congr_left fun p hp => ?_
    obtain ⟨i, _, e⟩ := h3 p hp
    show p.1 = Sum.inl (match p.1 with | .inl i => i | .inr _ => 0)
    rw [e]
  refine ⟨kvs, _, h1, hk, ?_, fun i => ?_, keys_len h2 h3⟩
  · rw [hk] at h2
    exact (List.pairwise_map.mp h2).imp fun h e => h (by rw [e])
  · rw [← h4 i]
    constructor
    · intro hi
      have : (Sum.inl i : Key) ∈ kvs.map (·.1) := by rw [hk]; exact List.mem_map.mpr ⟨i, hi, rfl⟩
      cases e : valV kvs (.inl i) with
      | none => exact absurd this (valV_not e)
      | some _ => rfl
    · intro hi
      obtain ⟨v, e⟩ := Option.isSome_iff_exists.mp hi
      have := valV_in e
      rw [hk] at this
      obtain ⟨j, hj, e2⟩ := List.mem_map.mp this
      injection e2 with e2
      rw [← e2]; exact hj
theorem val_mem : ∀ {kvs : List (Key × V)} {q : Key × V}, (kvs.map (·.1)).Nodup → q ∈ kvs → valV kvs q.1 = some q.2
  | p :: r, q, hn, hq => by
    obtain ⟨n1, n2⟩ := List.nodup_cons.mp (show (p.1 :: r.map (·.1)).Nodup from hn)
    rcases List.mem_cons.mp hq with e | e
    · rw [e]; exact valV_pos rfl
    · rw [valV_neg fun z => n1 (by rw [z]; exact List.mem_map.mpr ⟨q, e, rfl⟩)]
      exact val_mem n2 e
/-- all but the things of a list is as it was -/
def ButL (l : List Addr) (H H' : Hp) : Prop := ∀ b o, H b = some o → b ∉ l → H' b = some o
theorem ButL.refl (l : List Addr) (H : Hp) : ButL l H H := fun _ _ e _ => e
theorem ButL.trans {l : List Addr} {H H1 H2 : Hp} (a : ButL l H H1) (b : ButL l H1 H2) : ButL l H H2 := fun c o e h => b c o (a c o e h) h
theorem ButL.of_same {l : List Addr} {H H' : Hp} (e : Same H H') : ButL l H H' := fun b o h _ => e b o h
theorem ButL.upd {l : List Addr} {d : Addr} (hd : d ∈ l) (H : Hp) (o : HO) : ButL l H (upd H d o) := fun b o' e h => by rw [upd_ne (fun z => h (by rw [z]; exact hd))]; exact e
theorem ButL.mono {l l' : List Addr} {H H' : Hp} (a : ButL l H H') (h : ∀ x ∈ l, x ∈ l') : ButL l' H H' := fun b o e n => a b o e fun z => n (h b z)
/-- a thing that is no dict with plain keys stays -/
theorem ButL.keep {l : List Addr} {H H' : Hp} (a : ButL l H H') (hl : ∀ x ∈ l, ∃ kvs, H x = some (.dK kvs)) {b : Addr} {o : HO} (e : H b = some o) (h : ∀ k, o ≠ .dK k) : H' b = some o :=
  a b o e fun z => by
    obtain ⟨kvs, hk⟩ := hl b z
    rw [e] at hk
    injection hk with hk
    exact h _ hk
/-- an Ends -/
structure EndO (K : PySem.W.Frag) (H : Hp) (p W B E M P dx : Addr) (od : Obj) (xs : List Bow) (w : Bow → Int) : Prop where
  at_ : H p = some (.ins (He.ga K "Ends") dx [("its_weights", .ref W), ("its_begins", .ref B), ("its_ends", .ref E), ("its_mates", .ref M), ("its_partners", .ref P)])
  wg : H W = some (.frz od (.dT (xs.map fun x => (bk x, V.int (w x)))))
  nd : xs.Nodup
  nBE : B ≠ E
  nBM : B ≠ M
  nBP : B ≠ P
  nEM : E ≠ M
  nEP : E ≠ P
  nMP : M ≠ P
theorem EndO.but {K : PySem.W.Frag} {H H' : Hp} {p W B E M P dx : Addr} {od : Obj} {xs : List Bow} {w : Bow → Int} {l : List Addr} (h : EndO K H p W B E M P dx od xs w) (bt : ButL l H H') (hl : ∀ x ∈ l, ∃ kvs, H x = some (.dK kvs)) : EndO K H' p W B E M P dx od xs w :=
  { h with at_ := bt.keep hl h.at_ fun k z => HO.noConfusion z, wg := bt.keep hl h.wg fun k z => HO.noConfusion z }
theorem EndO.same {K : PySem.W.Frag} {H H' : Hp} {p W B E M P dx : Addr} {od : Obj} {xs : List Bow} {w : Bow → Int} (h : EndO K H p W B E M P dx od xs w) (e : Same H H') : EndO K H' p W B E M P dx od xs w :=
  { h with at_ := e _ _ h.at_, wg := e _ _ h.wg }
abbrev bgs (xs : List Bow) : List Int := xs.map fun x => x.1
abbrev eds (xs : List Bow) : List Int := xs.map fun x => x.2
/-- numbers, as a dict's values -/
def numV (L : List Int) (u : Int → Int) (i : Int) : Option V := if i ∈ L then some (.int (u i)) else none
def piV (f : Pi) (i : Int) : Option V := (f i).map V.int
def tV (G : Int → Bool) (i : Int) : Option V := if G i = true then some (.bl true) else none
theorem piV_some {f : Pi} {i : Int} : (piV f i).isSome = (f i).isSome := by unfold piV; cases f i <;> rfl
theorem tV_some {G : Int → Bool} {i : Int} : (tV G i).isSome = G i := by unfold tV; cases G i <;> rfl
theorem numV_some {L : List Int} {u : Int → Int} {i : Int} : (numV L u i).isSome = true ↔ i ∈ L := by
  unfold numV
  by_cases h : i ∈ L
  · rw [if_pos h]; simp [h]
  · rw [if_neg h]; simp [h]
theorem numV_get {L : List Int} {u : Int → Int} {i : Int} (h : i ∈ L) : numV L u i = some (.int (u i)) := if_pos h
theorem piV_get {f : Pi} {i j : Int} (h : f i = some j) : piV f i = some (.int j) := by unfold piV; rw [h]; rfl
theorem piV_put {f : Pi} {j x : Int} (i : Int) : piV (f.put j x) i = if i = j then some (V.int x) else piV f i := by
  unfold piV Pi.put
  by_cases e : i = j
  · rw [if_pos e, if_pos e]; rfl
  · rw [if_neg e, if_neg e]
theorem piV_cut {f : Pi} {j : Int} (i : Int) : piV (f.cut j) i = if i = j then none else piV f i := by
  unfold piV Pi.cut
  by_cases e : i = j
  · rw [if_pos e, if_pos e]; rfl
  · rw [if_neg e, if_neg e]
theorem tV_put {G : Int → Bool} {j : Int} (i : Int) : tV (fun x => G x || decide (x = j)) i = if i = j then some (V.bl true) else tV G i := by
  unfold tV
  by_cases e : i = j
  · rw [if_pos e, if_pos (by simp [e])]
  · rw [if_neg e]; simp [e]
/-- the four dicts -/
structure EndS (H : Hp) (B E M P : Addr) (xs : List Bow) (u v : Int → Int) (mu pi : Pi) : Prop where
  db : DI H B (bgs xs) (numV (bgs xs) u)
  de : DI H E (eds xs) (numV (eds xs) v)
  dm : DI H M (bgs xs) (piV mu)
  dp : DI H P (eds xs) (piV pi)
theorem EndS.same {H H' : Hp} {B E M P : Addr} {xs : List Bow} {u v : Int → Int} {mu pi : Pi} (h : EndS H B E M P xs u v mu pi) (e : Same H H') : EndS H' B E M P xs u v mu pi := ⟨h.db.same (e _), h.de.same (e _), h.dm.same (e _), h.dp.same (e _)⟩
theorem val_w {xs : List Bow} {w : Bow → Int} {x : Bow} (hn : xs.Nodup) (hx : x ∈ xs) : valV (xs.map fun x => (bk x, V.int (w x))) (bk x) = some (.int (w x)) := by
  have e : (xs.map fun x => (bk x, V.int (w x))) = (xs.map fun x => (x, w x)).map (entB V.int) := by rw [List.map_map]; rfl
  rw [e]
  exact val_some (c := (x, w x)) (by rw [List.map_map]; show (xs.map id).Nodup; rw [List.map_id]; exact hn) (List.mem_map.mpr ⟨x, hx, rfl⟩)
/-- a list comprehension over a walk that leaves the heap as it is -/
theorem lc_accW {J : It} {n : Nat} {G : Hp → Prop} {Y : Nat → Hp → V → Hp → Prop} (w : Walk J n G Y) {g : TG} {tt : TT} {te : TE} {vs : List Nat} {σ : L2.St} {H1 : Hp} {D : Addr} {Qd : Hp → Prop} (acc : Nat → List V) (hG : ∀ H, Same H1 H → G H) (hY : ∀ i H x H', Y i H x H' → H' = H) (hn : n ≤ sizeLine) (hD : H1 D = none) (h0 : acc 0 = [])
    (hs : ∀ i x H, i < n → Y i H x H → Same H1 H → H D = some (.lst (acc i)) → Turn g tt te vs σ (acc i) (acc (i + 1)) x H) (hd : ∀ H, Same H1 H → H D = some (.lst (acc n)) → Qd H) :
    ∃ W : Nat → Nat → Hp → Prop, (∃ m, W 0 m (upd H1 D (.lst []))) ∧ ∀ i m H, W i m H →
      (J.stop i H ∧ Qd H) ∨ (J.go i H ∧ ∃ Nx : Hp → Prop, (∀ H', Nx H' → ∃ m', m' < m ∧ W (i + 1) m' H') ∧ ∀ x H', J.yld i H x H' → g x (wipe σ vs) H' fun σ2 H2 => wipe σ2 vs = wipe σ vs ∧ tt σ2 H2 fun b H3 =>
        if b = true then te σ2 H3 fun y H4 => ∃ acc, H4 D = some (.lst acc) ∧ acc.length < sizeLine ∧ Nx (upd H4 D (.lst (acc ++ [y]))) else Nx H3) :=
  lc_it w (AccAt H1 D acc) (acc_start hD h0) (fun i H _ p => hG H p.1) (fun i x H H' hi p hx => by
    have e := hY i H x H' hx
    subst e
    exact lc_step hi hn hD (hs i x H' hi hx p.1 p.2.1) p) fun H p => hd H p.1 p.2.1
/-- what is locked and let go stays the same -/
theorem same_unlock {H H' : Hp} {d : Addr} {u : HO} {od : Obj} (hd : H d = some u) (e : Same (upd H d (.frz od u)) H') : Same H (upd H' d u) := fun b o hb => by
  by_cases z : b = d
  · rw [z, upd_same, ← hd, ← z]; exact hb
  · rw [upd_ne z]
    exact e b o (by rw [upd_ne z]; exact hb)
end Bw
end
section
set_option Elab.async false
set_option linter.all false
set_option maxRecDepth 100000
set_option maxHeartbeats 4000000
namespace Bw
open PySem PySem.Spec PyProof.Rows L2
section
variable {w : World} {K : PySem.W.Frag} {mg : Str → Option Value} {base : Heap}
def spSlack (K : PySem.W.Frag) : Sp := fun vs H Q _ => ∃ (p W B E M P dx q : Addr) (od : Obj) (xs : List Bow) (wt : Bow → Int) (u v : Int → Int) (x : Bow), vs = [.ref p, .ref q] ∧ EndO K H p W B E M P dx od xs wt ∧ DI H B (bgs xs) (numV (bgs xs) u) ∧ DI H E (eds xs) (numV (eds xs) v) ∧ H q = some (.tup [.int x.1, .int x.2]) ∧ x ∈ xs ∧
  Q (.int (u x.1 + v x.2 - wt x)) H
theorem sc_Ends_slack : FnScope ["self", "one"] ["self", "one"] (defScope s_Ends_slack) := ⟨rfl, rfl, rfl, by decide +kernel, rfl, by decide +kernel, by decide +kernel⟩
theorem ok_Ends_slack (c : Cy w K mg base) : Dm PG w K mg base "Ends" "slack" 1 ["self", "one"] (spSlack K) := by
  obtain ⟨fd, F⟩ := c.fd_Ends_slack
  refine ⟨walkD F sc_Ends_slack (fun vs H Q E h => ?_) (fun cdv A outer s H vs Q E hr h => ?_) fun _ _ _ _ _ _ us hl => match us, hl with | [_, _], _ => rfl, c.t_Ends_slack, c.c_Ends⟩
  · obtain ⟨_, _, _, _, _, _, _, _, _, _, _, _, _, _, rfl, _⟩ := h
    rfl
  · obtain ⟨p, W, B, E, M, P, dx, q, od, xs, wt, u, v, x, rfl, hO, dB, dE, hq, hx, Qk⟩ := h
    have hu := hu_of hr
    refine ⟨_, (pss_one (ps_ret (pe_op op_sub (pe_op op_add (pe_dget hu (pe_fld_k (K0 := K) (by rfl) (pv 0)) (pe_ix (ix_tup_k (K0 := K) (by rfl)) (pv 1) pe_int (fun _ _ => rfl)) (fun _ _ => rfl)) (pe_dget hu (pe_fld_k (K0 := K) (by rfl) (pv 0)) (pe_ix (ix_tup_k (K0 := K) (by rfl)) (pv 1) pe_int (fun _ _ => rfl)) (fun _ _ => rfl))) (pe_dget hu (pe_fld_k (K0 := K) (by rfl) (pv 0)) (pv 1) (fun _ _ => rfl))))), ?_⟩
    have gB : DGet H B (.int x.1) (some (.int (u x.1))) := by
      have := dB.get x.1
      rw [numV_get (List.mem_map.mpr ⟨x, hx, rfl⟩)] at this
      exact this
    have gE : DGet H E (.int x.2) (some (.int (v x.2))) := by
      have := dE.get x.2
      rw [numV_get (List.mem_map.mpr ⟨x, hx, rfl⟩)] at this
      exact this
    have gW : DGet H W (.ref q) (some (.int (wt x))) := by
      rw [← val_w hO.nd hx]
      exact .inr ⟨_, bk x, q, .inr ⟨od, hO.wg⟩, rfl, hq, rfl⟩
    have i0 : ([V.int x.1, V.int x.2])[0]? = some (.int x.1) := rfl
    have i1 : ([V.int x.1, V.int x.2])[1]? = some (.int x.2) := rfl
    refine ⟨_, rfl, p, _, dx, _, _, rfl, hO.at_, c.c_Ends, c.n_its_begins, rfl, _, rfl, q, _, 0, _, rfl, rfl, .inl (.inl hq), atI_nat (j := 0) i0, B, _, rfl, gB, ?_⟩
    refine ⟨_, rfl, p, _, dx, _, _, rfl, hO.at_, c.c_Ends, c.n_its_ends, rfl, _, rfl, q, _, 1, _, rfl, rfl, .inl (.inl hq), atI_nat (j := 1) i1, E, _, rfl, gE, ?_⟩
    refine ⟨_, _, rfl, rfl, _, rfl, p, _, dx, _, _, rfl, hO.at_, c.c_Ends, c.n_its_weights, rfl, _, rfl, W, _, rfl, gW, _, _, rfl, rfl, Qk⟩
def spFlip (K : PySem.W.Frag) : Sp := fun vs H Q _ => ∃ (p W B E M P dx C : Addr) (od : Obj) (xs : List Bow) (wt : Bow → Int) (u v : Int → Int) (mu pi c : Pi) (st e : Int) (r : Int → Nat), vs = [.ref p, .int e, .int st, .ref C] ∧ EndO K H p W B E M P dx od xs wt ∧ DI H M (bgs xs) (piV mu) ∧ DI H P (eds xs) (piV pi) ∧ DI H C (eds xs) (piV c) ∧ C ≠ M ∧ C ≠ P ∧ xs.length ≤ 1000 ∧
  st ∈ bgs xs ∧ Ho xs wt u v mu pi st c r e ∧ ∀ H' mu' pi', Fl xs wt u v mu pi st e mu' pi' → DI H' M (bgs xs) (piV mu') → DI H' P (eds xs) (piV pi') → ButL [M, P] H H' → Q .non H'
theorem sc_Ends_flip : FnScope ["self", "end", "start", "came", "begin", "other"] ["self", "end", "start", "came"] (defScope s_Ends_flip) := ⟨rfl, rfl, rfl, by decide +kernel, rfl, by decide +kernel, by decide +kernel⟩
theorem ok_Ends_flip (c : Cy w K mg base) : Dm PG w K mg base "Ends" "flip" 1 ["self", "end", "start", "came"] (spFlip K) := by
  obtain ⟨fd, F⟩ := c.fd_Ends_flip
  refine ⟨walkD F sc_Ends_flip (fun vs H Q E h => ?_) (fun cdv A outer s H vs Q E hr h => ?_) fun _ _ _ _ _ _ us hl => match us, hl with | [_, _, _, _], _ => rfl, c.t_Ends_flip, c.c_Ends⟩
  · obtain ⟨_, _, _, _, _, _, _, _, _, _, _, _, _, _, _, _, _, _, _, rfl, _⟩ := h
    rfl
  · obtain ⟨p, W, B, E, M, P, dx, C, od, xs, wt, u, v, mu0, pi0, cm, st, e0, r, rfl, hO, dM, dP, dC, nCM, nCP, hlen, hst, hH, Qk⟩ := h
    have hu := hu_of hr
    have lB : (bgs xs).length ≤ 1000 := by rw [List.length_map]; exact hlen
    have lE : (eds xs).length ≤ 1000 := by rw [List.length_map]; exact hlen
    refine ⟨_, (pss_one (ps_while PassesOwn.never (pt_val pe_bl) (pss_cons (ps_set (i := 4) sc_Ends_flip.nd rfl (by first | exact Or.inl rfl | exact Or.inr rfl) (pe_dget hu (pv 3) (pv 1) (fun _ _ => rfl)))
      (pss_cons (ps_set (i := 5) sc_Ends_flip.nd rfl (by first | exact Or.inl rfl | exact Or.inr rfl) (pe_dget1 hu (pe_fld_k (K0 := K) (by rfl) (pv 0)) (pv 4) ⟨rfl, rfl, rfl, rfl⟩))
      (pss_cons (ps_asg (pe_tup (pa_cons (pv 1) (pa_cons (pv 4) pa_nil))) (pg_tup_k (K0 := K) (n := 2) (by rfl) (by rfl) (pgs_cons (pg_sub (pe_fld_k (K0 := K) (by rfl) (pv 0)) (pv 4) (set_dict hu)) (pgs_cons (pg_sub (pe_fld_k (K0 := K) (by rfl) (pv 0)) (pv 1) (set_dict hu)) pgs_nil))))
      (pss_cons (ps_if (pt_cmpR op_eq (pv 4) (pv 2) (nomark _)) (pss_one ps_retN) pss_nil)
      (pss_one (ps_set (i := 1) sc_Ends_flip.nd rfl (by first | exact Or.inl rfl | exact Or.inr rfl) (pv 5))))))))), ?_⟩
    refine ⟨fun m σ H' => ∃ (x4 x5 : Option V) (e : Int) (mu pi : Pi), m = r e ∧ σ = [some (.ref p), some (.int e), some (.int st), some (.ref C), x4, x5] ∧ ButL [M, P] H H' ∧ DI H' M (bgs xs) (piV mu) ∧ DI H' P (eds xs) (piV pi) ∧ Ho xs wt u v mu pi st cm r e ∧ ∀ mu' pi', Fl xs wt u v mu pi st e mu' pi' → Fl xs wt u v mu0 pi0 st e0 mu' pi',
      ⟨_, _, _, e0, mu0, pi0, rfl, rfl, ButL.refl _ _, dM, dP, hH, fun _ _ h => h⟩, ?_⟩
    rintro m σ H' ⟨x4, x5, e, mu, pi, rfl, rfl, bt, dM', dP', hH', back⟩
    have dds : ∀ x ∈ [M, P], ∃ kvs, H x = some (.dK kvs) := fun x hx => by
      rcases List.mem_cons.mp hx with h | h
      · rw [h]; exact dM.isD
      · rw [show x = P by simpa using h]; exact dP.isD
    have dds' : ∀ x ∈ [M, P], ∃ kvs, H' x = some (.dK kvs) := fun x hx => by
      rcases List.mem_cons.mp hx with h | h
      · rw [h]; exact dM'.isD
      · rw [show x = P by simpa using h]; exact dP'.isD
    have hO' := hO.but bt dds
    have dC' : DI H' C (eds xs) (piV cm) := dC.same fun o hc => bt _ _ hc (by simp [nCM, nCP])
    obtain ⟨b, hcb⟩ := Option.isSome_iff_exists.mp hH'.co
    obtain ⟨hxe, _⟩ := hH'.ce e b hcb
    have gC : DGet H' C (.int e) (some (.int b)) := by
      have := dC'.get e
      rw [piV_get hcb] at this
      exact this
    refine ⟨true, rfl, ?_⟩
    refine iteT ⟨fun σ' H'' => ∃ m', m' < r e ∧ _, fun σ' H'' h => h, ?_⟩
    refine ⟨_, rfl, _, rfl, C, _, rfl, gC, ?_⟩
    refine ⟨_, rfl, p, _, dx, _, _, rfl, hO'.at_, c.c_Ends, c.n_its_mates, rfl, M, rfl, dM'.isD', _, rfl, _, dM'.get b, ?_⟩
    -- the two notes
    refine ⟨_, rfl, _, rfl, by show 2 ≤ sizeLine; decide, fun T hT => ?_⟩
    have sT := same_upd (o := .tup [.int e, .int b]) hT
    have eT : (upd H' T (.tup [.int e, .int b])) T = some (.tup [.int e, .int b]) := upd_same
    have bt1 := bt.trans (ButL.of_same (l := [M, P]) sT)
    have hO1 := hO'.same sT
    have dM1 := dM'.same (sT M)
    have dP1 := dP'.same (sT P)
    generalize upd H' T (.tup [.int e, .int b]) = H1 at sT eT bt1 hO1 dM1 dP1 ⊢
    obtain ⟨o, o1, dM2⟩ := dM1.put (j := b) (List.mem_map.mpr ⟨_, hxe, rfl⟩) lB (.int e)
    have dM2 := dM2.congr fun i => piV_put (f := mu) i
    have bt2 := bt1.trans (ButL.upd (l := [M, P]) (d := M) (by simp) H1 o)
    have hO2 := hO1.but (ButL.upd (l := [M, P]) (d := M) (by simp) H1 o) fun x hx => by
      rcases List.mem_cons.mp hx with h | h
      · rw [h]; exact dM1.isD
      · rw [show x = P by simpa using h]; exact dP1.isD
    have dP2 := dP1.same (H' := upd H1 M o) fun o' e => by rw [upd_ne hO.nMP.symm]; exact e
    refine ⟨T, _, rfl, .inl (.inl eT), rfl, _, _, rfl, _, rfl, p, _, dx, _, _, rfl, hO1.at_, c.c_Ends, c.n_its_mates, rfl, _, rfl, M, _, rfl, o1, ?_⟩
    generalize upd H1 M o = H2 at bt2 hO2 dP2 dM2 ⊢
    obtain ⟨o', o2, dP3⟩ := dP2.put (j := e) (List.mem_map.mpr ⟨_, hxe, rfl⟩) lE (.int b)
    have dP3 := dP3.congr fun i => piV_put (f := pi) i
    have bt3 := bt2.trans (ButL.upd (l := [M, P]) (d := P) (by simp) H2 o')
    have dM3 := dM2.same (H' := upd H2 P o') fun o'' e => by rw [upd_ne hO.nMP]; exact e
    refine ⟨_, _, rfl, _, rfl, p, _, dx, _, _, rfl, hO2.at_, c.c_Ends, c.n_its_partners, rfl, _, rfl, P, _, rfl, o2, rfl, ?_⟩
    generalize upd H2 P o' = H3 at bt3 dP3 dM3 ⊢
    refine ⟨_, rfl, _, rfl, rfl, _, rfl, ?_⟩
    refine iteI (fun hb => ?_) (fun hb => ?_)
    · subst hb
      exact Qk H3 _ _ (back _ _ (hH'.last hcb)) dM3 dP3 bt3
    · obtain ⟨e1, m1, r1, hN⟩ := hH'.next hcb hb
      rw [piV_get m1]
      refine ⟨_, rfl, r e1, r1, _, _, e1, _, _, rfl, rfl, bt3, dM3, dP3, hN, fun mu' pi' hF => back _ _ (hF.step hH' m1)⟩
def spLeave (K : PySem.W.Frag) : Sp := fun vs H Q _ => ∃ (p W B E M P dx C : Addr) (od : Obj) (xs : List Bow) (wt : Bow → Int) (u v : Int → Int) (mu pi c : Pi) (st b : Int) (G : Int → Bool) (r : Int → Nat), vs = [.ref p, .int b, .int st, .ref C] ∧ EndO K H p W B E M P dx od xs wt ∧ DI H M (bgs xs) (piV mu) ∧ DI H P (eds xs) (piV pi) ∧ DI H C (eds xs) (piV c) ∧ C ≠ M ∧ C ≠ P ∧ xs.length ≤ 1000 ∧
  Du xs wt u v mu pi ∧ Tr xs wt u v mu pi st G c r ∧ G b = true ∧
  ∀ H' mu' pi', ((b = st ∧ mu' = mu ∧ pi' = pi) ∨ (b ≠ st ∧ ∃ e, Fl xs wt u v (mu.cut b) pi st e mu' pi')) → DI H' M (bgs xs) (piV mu') → DI H' P (eds xs) (piV pi') → ButL [M, P] H H' → Q .non H'
theorem sc_Ends_leave : FnScope ["self", "begin", "start", "came", "end"] ["self", "begin", "start", "came"] (defScope s_Ends_leave) := ⟨rfl, rfl, rfl, by decide +kernel, rfl, by decide +kernel, by decide +kernel⟩
theorem ok_Ends_leave (c : Cy w K mg base) : Dm PG w K mg base "Ends" "leave" 2 ["self", "begin", "start", "came"] (spLeave K) := by
  obtain ⟨fd, F⟩ := c.fd_Ends_leave
  have D_Ends_flip := ok_Ends_flip c
  refine ⟨walkD F sc_Ends_leave (fun vs H Q E h => ?_) (fun cdv A outer s H vs Q E hr h => ?_) fun _ _ _ _ _ _ us hl => match us, hl with | [_, _, _, _], _ => rfl, c.t_Ends_leave, c.c_Ends⟩
  · obtain ⟨_, _, _, _, _, _, _, _, _, _, _, _, _, _, _, _, _, _, _, _, rfl, _⟩ := h
    rfl
  · obtain ⟨p, W, B, E, M, P, dx, C, od, xs, wt, u, v, mu, pi, cm, st, b, G, r, rfl, hO, dM, dP, dC, nCM, nCP, hlen, hD, hT, hg, Qk⟩ := h
    have hu := hu_of hr
    refine ⟨_, (pss_one (ps_if (pt_cmpR op_ne (pv 1) (pv 2) (nomark _)) (pss_cons (ps_set (i := 4) sc_Ends_leave.nd rfl (by first | exact Or.inl rfl | exact Or.inr rfl) (pe_dpop1 (pe_fld_k (K0 := K) (by rfl) (pv 0)) (pv 1) ⟨rfl, rfl, rfl, rfl⟩))
      (pss_one (ps_expr (Dm.call (K0 := K) (by rfl) D_Ends_flip (hr.mono (by decide)) (pv 0) (pa_cons (pv 4) (pa_cons (pv 2) (pa_cons (pv 3) pa_nil))))))) pss_nil)), ?_⟩
    refine ⟨_, rfl, _, rfl, rfl, _, rfl, ?_⟩
    refine iteNI (fun hb => ?_) (fun hb => ?_)
    · obtain ⟨e, m1, hH⟩ := hT.leave hD hg hb
      obtain ⟨kvs, k1, k2, dM2⟩ := dM.pop (piV_get m1)
      refine ⟨_, rfl, p, _, dx, _, _, rfl, hO.at_, c.c_Ends, c.n_its_mates, rfl, M, rfl, dM.isD', _, rfl, kvs, .inl b, _, k1, rfl, k2, ?_⟩
      have dM2 := dM2.congr fun i => piV_cut (f := mu) i
      have bt := ButL.upd (l := [M, P]) (d := M) (by simp) H (.dK (dropK kvs (.inl b)))
      have hO2 := hO.but bt fun x hx => by
        rcases List.mem_cons.mp hx with h | h
        · rw [h]; exact dM.isD
        · rw [show x = P by simpa using h]; exact dP.isD
      have dP2 := dP.same (H' := upd H M (.dK (dropK kvs (.inl b)))) fun o' e => by rw [upd_ne hO.nMP.symm]; exact e
      have dC2 := dC.same (H' := upd H M (.dK (dropK kvs (.inl b)))) fun o' e => by rw [upd_ne nCM]; exact e
      generalize upd H M (.dK (dropK kvs (.inl b))) = H2 at dM2 bt hO2 dP2 dC2 ⊢
      refine ⟨_, rfl, p, dx, _, rfl, hO2.at_, rfl, _, rfl, _, rfl, _, rfl, p, W, B, E, M, P, dx, C, od, xs, wt, u, v, mu.cut b, pi, cm, st, e, r, rfl, hO2, dM2, dP2, dC2, nCM, nCP, hlen, ?_, hH, fun H' mu' pi' hF dM' dP' bt' => Qk H' mu' pi' (.inr ⟨hb, e, hF⟩) dM' dP' (bt.trans bt')⟩
      obtain ⟨x, hx, ex⟩ := hT.gb st hT.s1
      exact List.mem_map.mpr ⟨x, hx, ex⟩
    · exact Qk H mu pi (.inl ⟨hb, rfl, rfl⟩) dM dP (ButL.refl _ _)
def spChosen (K : PySem.W.Frag) : Sp := fun vs H Q _ => ∃ (p W B E M P dx : Addr) (od : Obj) (xs : List Bow) (wt : Bow → Int) (mu : Pi), vs = [.ref p] ∧ EndO K H p W B E M P dx od xs wt ∧ DI H M (bgs xs) (piV mu) ∧
  ∀ H' l (ps : List (Addr × Bow)), (∀ b e, (b, e) ∈ ps.map (·.2) ↔ mu b = some e) → (ps.map (·.2)).Nodup → H l = none → H' l = some (.lst (ps.map fun z => V.ref z.1)) → (∀ z ∈ ps, H' z.1 = some (.tup [.int z.2.1, .int z.2.2])) → Same H H' → Q (.ref l) H'
theorem sc_Ends_chosen : FnScope ["self"] ["self"] (defScope s_Ends_chosen) := ⟨rfl, rfl, rfl, by decide +kernel, rfl, by decide +kernel, by decide +kernel⟩
theorem ok_Ends_chosen (c : Cy w K mg base) : Dm PG w K mg base "Ends" "chosen" 1 ["self"] (spChosen K) := by
  obtain ⟨fd, F⟩ := c.fd_Ends_chosen
  refine ⟨walkD F sc_Ends_chosen (fun vs H Q E h => ?_) (fun cdv A outer s H vs Q E hr h => ?_) fun _ _ _ _ _ _ us hl => match us, hl with | [_], _ => rfl, c.t_Ends_chosen, c.c_Ends⟩
  · obtain ⟨_, _, _, _, _, _, _, _, _, _, _, rfl, _⟩ := h
    rfl
  · obtain ⟨p, W, B, E, M, P, dx, od, xs, wt, mu, rfl, hO, dM, Qk⟩ := h
    refine ⟨_, (pss_one (ps_ret (pe_callB (cr_sortedItK rfl) (by rfl) c.f_sorted (by decide +kernel) (pa_cons (pe_bm0_k (K0 := K) (by rfl) PySem.F.plainAttrs_dict PySem.F.slot_dict_items PySem.F.type_dict_items mt_itemsK (pe_fld_k (K0 := K) (by rfl) (pv 0))) pa_nil)))), ?_⟩
    obtain ⟨kvs, k1, k2, k3, k4⟩ := dM.ex
    refine ⟨_, rfl, p, _, dx, _, _, rfl, hO.at_, c.c_Ends, c.n_its_mates, rfl, .inr (.inr (.inl ⟨rfl, .inl ⟨_, k1⟩⟩)), M, kvs, rfl, rfl, k1, fun p2 hp2 => ?_⟩
    have sp := same_upd (o := L2.DX.itemsO p2 M) hp2
    have ep : (upd H p2 (L2.DX.itemsO p2 M)) p2 = some (L2.DX.itemsO p2 M) := upd_same
    generalize upd H p2 (L2.DX.itemsO p2 M) = H1 at sp ep ⊢
    have ent : ∀ q ∈ kvs, ∃ i j : Int, q = entK (i, j) ∧ mu i = some j := fun q hq => by
      obtain ⟨i, _, e1⟩ := k3 q hq
      have e3 := val_mem k2 hq
      rw [e1, k4 i] at e3
      have e2 : (piV mu i).isSome = true := by rw [e3]; rfl
      rw [piV_some] at e2
      obtain ⟨j, hj⟩ := Option.isSome_iff_exists.mp e2
      rw [piV_get hj] at e3
      injection e3 with e3
      exact ⟨i, j, Prod.ext e1 e3.symm, hj⟩
    have hms : kvs = (kvs.map fun q => ((match q.1 with | .inl i => i | .inr _ => (0 : Int)), (match q.2 with | .int j => j | _ => (0 : Int)))).map entK := by
      rw [List.map_map]
      conv => lhs; rw [← List.map_id kvs]
      refine List.map_congr_left fun q hq => ?_
      obtain ⟨i, j, rfl, _⟩ := ent q hq
      rfl
    generalize (kvs.map fun q => ((match q.1 with | .inl i => i | .inr _ => (0 : Int)), (match q.2 with | .int j => j | _ => (0 : Int)))) = ms at hms
    subst hms
    have mm : ∀ b e, (b, e) ∈ ms ↔ mu b = some e := fun b e => by
      constructor
      · intro h
        obtain ⟨i, j, e1, e2⟩ := ent _ (List.mem_map.mpr ⟨_, h, rfl⟩)
        injection e1 with a1 a2
        injection a1 with a1
        injection a2 with a2
        have a1 : b = i := a1
        have a2 : e = j := a2
        rw [a1, a2]; exact e2
      · intro h
        have h1 := k4 b
        rw [piV_get h] at h1
        obtain ⟨q, hq, e1⟩ := List.mem_map.mp (valV_in h1)
        obtain ⟨i, j, e2, e3⟩ := ent q hq
        rw [e2] at e1 hq
        injection e1 with e1
        have e1 : i = b := e1
        rw [e1, h] at e3
        injection e3 with e3
        obtain ⟨m, hm, e4⟩ := List.mem_map.mp hq
        injection e4 with a1 a2
        injection a1 with a1
        injection a2 with a2
        have a1 : m.1 = i := a1
        have a2 : m.2 = j := a2
        rw [← e1, e3, ← a1, ← a2]; exact hm
    have nm : ms.Nodup := by
      rw [List.map_map] at k2
      exact (List.pairwise_map.mp k2).imp fun h e => h (by rw [e])
    refine ⟨p2, M, ms, rfl, ep, sp _ _ k1, fun H' l ps keep nl pm el et => Qk H' l ps (fun b e => by rw [pm.mem_iff]; exact mm b e) (pm.nodup_iff.mpr nm) (by cases e : H l with | none => rfl | some o => rw [sp _ _ e] at nl; cases nl) el et fun b o e => keep b o (sp _ _ e)⟩
end
end Bw
end
section
set_option Elab.async false
set_option linter.all false
set_option maxRecDepth 100000
set_option maxHeartbeats 4000000
namespace Bw
open PySem PySem.Spec PyProof.Rows L2
/-- numbers of which the first ones were changed -/
def uT (u : Int → Int) (ks : List Int) (t : Nat) (m : Int) : Int → Int := fun b => if b ∈ ks.take t then u b + m else u b
theorem uT_zero (u : Int → Int) (ks : List Int) (m : Int) : uT u ks 0 m = u := by
  funext b
  unfold uT
  rw [List.take_zero, if_neg List.not_mem_nil]
theorem uT_at {u : Int → Int} {ks : List Int} {t : Nat} {m j : Int} (hn : ks.Nodup) (hj : ks[t]? = some j) : uT u ks t m j = u j := by
  unfold uT
  refine if_neg fun h => ?_
  have e : ks.take (t + 1) = ks.take t ++ [j] := by rw [List.take_add_one, hj]; rfl
  have h2 : (ks.take (t + 1)).Nodup := hn.sublist (List.take_sublist _ _)
  rw [e] at h2
  exact (List.nodup_append.mp h2).2.2 _ h _ (by simp) rfl
theorem uT_succ {L : List Int} {u : Int → Int} {ks : List Int} {t : Nat} {m j : Int} (hj : ks[t]? = some j) (hL : j ∈ L) (i : Int) : numV L (uT u ks (t + 1) m) i = if i = j then some (V.int (u j + m)) else numV L (uT u ks t m) i := by
  have e : ks.take (t + 1) = ks.take t ++ [j] := by rw [List.take_add_one, hj]; rfl
  by_cases h : i = j
  · rw [if_pos h, h, numV_get hL]
    unfold uT
    rw [e, if_pos (by simp)]
  · rw [if_neg h]
    unfold numV uT
    rw [e]
    by_cases hi : i ∈ L
    · rw [if_pos hi, if_pos hi]
      by_cases h2 : i ∈ ks.take t
      · rw [if_pos h2, if_pos (List.mem_append_left _ h2)]
      · rw [if_neg h2, if_neg fun q => (List.mem_append.mp q).elim h2 fun q => h (by simpa using q)]
    · rw [if_neg hi, if_neg hi]
theorem key_get {kvs : List (Key × V)} {ks : List Int} {i : Nat} {k : Key} {v : V} (hk : kvs.map (·.1) = ks.map Sum.inl) (h : kvs[i]? = some (k, v)) : ∃ j, ks[i]? = some j ∧ k = Sum.inl j := by
  have := congrArg (·[i]?) hk
  simp only [List.getElem?_map, h, Option.map_some] at this
  obtain ⟨j, h1, h2⟩ := Option.map_eq_some_iff.mp this.symm
  exact ⟨j, h1, h2.symm⟩
section
variable {w : World} {K : PySem.W.Frag} {mg : Str → Option Value} {base : Heap}
structure ShOk (xs : List Bow) (wt : Bow → Int) (u v : Int → Int) (G : Int → Bool) (c : Pi) (m : Int) : Prop where
  h1 : ∀ b, G b = true → m ≤ u b
  h2 : ∀ x ∈ xs, G x.1 = true → c x.2 = none → m ≤ u x.1 + v x.2 - wt x
  h3 : (∃ b, G b = true ∧ u b = m) ∨ ∃ x ∈ xs, G x.1 = true ∧ c x.2 = none ∧ u x.1 + v x.2 - wt x = m
def spShift (K : PySem.W.Frag) : Sp := fun vs H Q _ => ∃ (p W B E M P dx Gd C so : Addr) (od : Obj) (xs : List Bow) (wt : Bow → Int) (u v : Int → Int) (c : Pi) (G : Int → Bool) (qs : List (Addr × Bow)), vs = [.ref p, .ref Gd, .ref C, .ref so] ∧ EndO K H p W B E M P dx od xs wt ∧ DI H B (bgs xs) (numV (bgs xs) u) ∧ DI H E (eds xs) (numV (eds xs) v) ∧ DI H Gd (bgs xs) (tV G) ∧ DI H C (eds xs) (piV c) ∧
  Gd ≠ B ∧ Gd ≠ E ∧ C ≠ B ∧ C ≠ E ∧ xs.length ≤ 1000 ∧ qs.length ≤ 1000 ∧ H so = some (.lst (qs.map fun q => V.ref q.1)) ∧ (∀ q ∈ qs, H q.1 = some (.tup [.int q.2.1, .int q.2.2])) ∧ (∀ x, x ∈ qs.map (·.2) ↔ x ∈ xs ∧ G x.1 = true ∧ c x.2 = none) ∧ (∃ b, G b = true) ∧ (∀ b, G b = true → b ∈ bgs xs) ∧ (∀ e, (c e).isSome = true → e ∈ eds xs) ∧
  ∀ H' m, ShOk xs wt u v G c m → DI H' B (bgs xs) (numV (bgs xs) (shU u G m)) → DI H' E (eds xs) (numV (eds xs) (shV v c m)) → ButL [B, E] H H' → Q .non H'
theorem sc_Ends_shift : FnScope ["self", "grown", "came", "some", "begin", "many", "end", "one"] ["self", "grown", "came", "some"] (defScope s_Ends_shift) := ⟨rfl, rfl, rfl, by decide +kernel, rfl, by decide +kernel, by decide +kernel⟩
theorem ok_Ends_shift (c : Cy w K mg base) : Dm PG w K mg base "Ends" "shift" 2 ["self", "grown", "came", "some"] (spShift K) := by
  obtain ⟨fd, F⟩ := c.fd_Ends_shift
  have D_Ends_slack := ok_Ends_slack c
  refine ⟨walkD F sc_Ends_shift (fun vs H Q E h => ?_) (fun cdv A outer s H vs Q E hr h => ?_) fun _ _ _ _ _ _ us hl => match us, hl with | [_, _, _, _], _ => rfl, c.t_Ends_shift, c.c_Ends⟩
  · obtain ⟨_, _, _, _, _, _, _, _, _, _, _, _, _, _, _, _, _, _, rfl, _⟩ := h
    rfl
  · obtain ⟨p, W, B, E, M, P, dx, Gd, C, so, od, xs, wt, u, v, cm, G, qs, rfl, hO, dB, dE, dG, dC, nGB, nGE, nCB, nCE, hlen, hql, hso, hq, mq, ⟨b0, hb0⟩, gIn, cIn, Qk⟩ := h
    have hu := hu_of hr
    have b1000 : (1000 : Nat) + 1000 < sizeLine := by decide
    have lB : (bgs xs).length ≤ 1000 := by rw [List.length_map]; exact hlen
    have lE : (eds xs).length ≤ 1000 := by rw [List.length_map]; exact hlen
    refine ⟨_, (pss_cons (ps_set (i := 5) sc_Ends_shift.nd rfl (by first | exact Or.inl rfl | exact Or.inr rfl) (pe_callB (cr_min_k (K0 := K) (by rfl) rfl) (by rfl) c.f_min (by decide +kernel) (pa_cons (pe_op op_cat (pe_lock (pe_lc rfl sc_Ends_shift.nd (pi_keys (pv 1)) (blkOk_by (own := [("begin", 4)]) (by show blkC ["self", "grown", "came", "some", "begin", "many", "end", "one"] (defScope s_Ends_shift) _ _ = true; decide +kernel)) (fun _ _ _ _ _ => (pg_name (i := 4) sc_Ends_shift.nd rfl (by first | exact Or.inl rfl | exact Or.inr rfl))) (fun _ _ _ _ _ => pts_nil) (fun _ _ _ _ _ => (pe_dget hu (pe_fld_k (K0 := K) (by rfl) (pv 0)) (pv 4) (fun _ _ => rfl))))) (pe_lc rfl sc_Ends_shift.nd (pi_list_k (K0 := K) (by rfl) (pv 3)) (blkOk_by (own := [("one", 7)]) (by show blkC ["self", "grown", "came", "some", "begin", "many", "end", "one"] (defScope s_Ends_shift) _ _ = true; decide +kernel)) (fun _ _ _ _ _ => (pg_name (i := 7) sc_Ends_shift.nd rfl (by first | exact Or.inl rfl | exact Or.inr rfl))) (fun _ _ _ _ _ => pts_nil) (fun _ _ _ _ _ => (Dm.call (K0 := K) (by rfl) D_Ends_slack (hr.mono (by decide)) (pv 0) (pa_cons (pv 7) pa_nil))))) pa_nil)))
      (pss_cons (ps_lock (ps_for PassesOwn.never rfl (pi_keys (pv 1)) (pg_name (i := 4) sc_Ends_shift.nd rfl (by first | exact Or.inl rfl | exact Or.inr rfl)) (pss_one (ps_daug hu (pe_fld_k (K0 := K) (by rfl) (pv 0)) (pv 4) (pv 5) in_sub (fun _ _ _ => rfl)))))
      (pss_one (ps_lock (ps_for PassesOwn.never rfl (pi_keys (pv 2)) (pg_name (i := 6) sc_Ends_shift.nd rfl (by first | exact Or.inl rfl | exact Or.inr rfl)) (pss_one (ps_daug hu (pe_fld_k (K0 := K) (by rfl) (pv 0)) (pv 6) (pv 5) in_add (fun _ _ _ => rfl)))))))), ?_⟩
    obtain ⟨kvs, ks, g1, g2, g3, g4, g5⟩ := dG.keys
    have lk : kvs.length = ks.length := by simpa using congrArg List.length g2
    have g4' : ∀ i, i ∈ ks ↔ G i = true := fun i => by rw [g4 i, tV_some]
    refine ⟨Gd, _, g1, True.intro, fun oG => ?_⟩
    -- the numbers of the grown
    refine ⟨_, rfl, Gd, oG, rfl, .inl ⟨kvs, upd_same, fun D hD => ?_⟩⟩
    have DnG : D ≠ Gd := fun z => by rw [z, upd_same] at hD; cases hD
    have hDH : H D = none := by rw [upd_ne DnG] at hD; exact hD
    have atP : ∀ {H' : Hp}, Same (upd H Gd (.frz oG (.dK kvs))) H' → H' p = some (.ins (He.ga K "Ends") dx [("its_weights", .ref W), ("its_begins", .ref B), ("its_ends", .ref E), ("its_mates", .ref M), ("its_partners", .ref P)]) := fun s => s _ _ (by rw [upd_ne (ne_of hO.at_ g1 (by intro z; cases z))]; exact hO.at_)
    refine lc_accW walk_keys (accM ks fun i => V.int (u i)) (fun H' s => s _ _ upd_same) (fun _ _ _ _ h => h.1) (by omega) hD rfl (fun i x H2 hi hx s2 _ K1 K0 k1 k0 => ?_) fun H2 s2 e2 => ?_
    · obtain ⟨_, k, v', hk, rfl⟩ := hx
      obtain ⟨j, hj, rfl⟩ := key_get g2 hk
      have jm := (g4' j).mp (List.mem_of_getElem? hj)
      have gB : DGet H2 B (.int j) (some (.int (u j))) := by
        have := (dB.same (H' := H2) fun o e => s2 _ _ (by rw [upd_ne nGB.symm]; exact e)).get j
        rw [numV_get (gIn j jm)] at this
        exact this
      exact ⟨rfl, _, rfl, p, _, dx, _, _, rfl, atP s2, c.c_Ends, c.n_its_begins, rfl, _, rfl, B, _, rfl, gB, k1 _ _ (Same.refl _) (accM_succ (f := fun i => V.int (u i)) hj)⟩
    rw [lk, accM_all rfl] at e2
    refine ⟨s2 _ _ upd_same, ?_⟩
    have s3 := same_unlock g1 s2
    have e3 : (upd H2 Gd (.dK kvs)) D = some (.lst (ks.map fun i => V.int (u i))) := by rw [upd_ne DnG]; exact e2
    generalize upd H2 Gd (.dK kvs) = H3 at s3 e3 ⊢
    refine ⟨_, rfl, so, rfl, ⟨_, .inl (.inl (s3 _ _ hso))⟩, fun D2 hD2 => ?_⟩
    refine lc_accL (accM qs fun q => V.int (u q.2.1 + v q.2.2 - wt q.2)) (.inl (.inl (s3 _ _ hso))) (by rw [List.length_map]; omega) hD2 rfl (fun i x H4 hx s4 _ K1 K0 k1 k0 => ?_) fun H4 s4 e4 => ?_
    · obtain ⟨q, hqi, rfl⟩ : ∃ q, qs[i]? = some q ∧ V.ref q.1 = x := by rw [List.getElem?_map] at hx; exact Option.map_eq_some_iff.mp hx
      have qm := List.mem_of_getElem? hqi
      have s34 := s3.trans s4
      obtain ⟨x1, _, _⟩ := (mq q.2).mp (List.mem_map.mpr ⟨q, qm, rfl⟩)
      exact ⟨rfl, _, rfl, p, dx, _, rfl, s34 _ _ hO.at_, rfl, _, rfl, p, W, B, E, M, P, dx, q.1, od, xs, wt, u, v, q.2, rfl, hO.same s34, dB.same (s34 _), dE.same (s34 _), s34 _ _ (hq q qm), x1, k1 _ _ (Same.refl _) (accM_succ (f := fun q : Addr × Bow => V.int (u q.2.1 + v q.2.2 - wt q.2)) hqi)⟩
    rw [accM_all (by rw [List.length_map])] at e4
    have s04 := s3.trans s4
    have e3' := s4 _ _ e3
    refine ⟨D, D2, _, _, rfl, rfl, e3', e4, by rw [List.length_map, List.length_map]; omega, fun R hR => ?_⟩
    have sR := same_upd (o := .lst ((ks.map fun i => V.int (u i)) ++ qs.map fun q => V.int (u q.2.1 + v q.2.2 - wt q.2))) hR
    have eR : (upd H4 R (.lst ((ks.map fun i => V.int (u i)) ++ qs.map fun q => V.int (u q.2.1 + v q.2.2 - wt q.2)))) R = some (.lst ((ks.map u ++ qs.map fun q => u q.2.1 + v q.2.2 - wt q.2).map V.int)) := by
      rw [upd_same, List.map_append, List.map_map, List.map_map]; rfl
    generalize upd H4 R _ = H5 at sR eR ⊢
    have s5 := s04.trans sR
    refine ⟨R, _, rfl, .inl (.inl eR), ?_, fun m hm hx => ?_⟩
    · rw [List.length_append, List.length_map]
      have := List.length_pos_of_mem ((g4' b0).mpr hb0)
      omega
    have sh : ShOk xs wt u v G cm m := by
      refine ⟨fun b hb => hx _ (List.mem_append_left _ (List.mem_map.mpr ⟨b, (g4' b).mpr hb, rfl⟩)), fun x x1 x2 x3 => ?_, ?_⟩
      · obtain ⟨q, hqm, e⟩ := List.mem_map.mp ((mq x).mpr ⟨x1, x2, x3⟩)
        have := hx _ (List.mem_append_right _ (List.mem_map.mpr ⟨q, hqm, rfl⟩))
        rw [← e]; exact this
      · rcases List.mem_append.mp hm with h | h
        · obtain ⟨b, hb, e⟩ := List.mem_map.mp h
          exact .inl ⟨b, (g4' b).mp hb, e⟩
        · obtain ⟨q, hqm, e⟩ := List.mem_map.mp h
          obtain ⟨x1, x2, x3⟩ := (mq q.2).mp (List.mem_map.mpr ⟨q, hqm, rfl⟩)
          exact .inr ⟨q.2, x1, x2, x3, e⟩
    have hO5 := hO.same s5
    have dB5 := dB.same (s5 B)
    have dE5 := dE.same (s5 E)
    have g15 := s5 _ _ g1
    have dC5 := dC.same (s5 C)
    -- the begins
    refine ⟨Gd, _, g15, True.intro, fun oG2 => ?_⟩
    have pG : p ≠ Gd := ne_of hO5.at_ g15 (by intro z; cases z)
    have pB : p ≠ B := fun z => by obtain ⟨k, hk⟩ := dB5.isD; have := hO5.at_; rw [z, hk] at this; cases this
    refine ⟨_, rfl, Gd, oG2, rfl, .inl ⟨kvs, upd_same, ?_⟩⟩
    refine for_it walk_keys (fun t σ H' => ∃ x4 x6 x7, σ = [some (.ref p), some (.ref Gd), some (.ref C), some (.ref so), x4, some (.int m), x6, x7] ∧ ButL [B] (upd H5 Gd (.frz oG2 (.dK kvs))) H' ∧ DI H' B (bgs xs) (numV (bgs xs) (uT u ks t (-m)))) ?_ ?_ ?_ ?_
    · exact ⟨_, _, _, rfl, ButL.refl _ _, by rw [uT_zero]; exact dB5.same fun o e => by rw [upd_ne nGB.symm]; exact e⟩
    · rintro t σ H' _ ⟨_, _, _, _, bt, _⟩
      exact bt _ _ upd_same (by simp [nGB])
    · rintro t x σ H' H'' ht ⟨x4, x6, x7, rfl, bt, dB'⟩ ⟨rfl, k, v', hk, rfl⟩
      obtain ⟨j, hj, rfl⟩ := key_get g2 hk
      have jL := gIn j ((g4' j).mp (List.mem_of_getElem? hj))
      have gB : DGet H'' B (.int j) (some (.int (u j))) := by
        have := dB'.get j
        rw [numV_get jL, uT_at g3 hj] at this
        exact this
      obtain ⟨o, o1, dB2⟩ := dB'.put jL lB (.int (u j - m))
      have atp : H'' p = some (.ins (He.ga K "Ends") dx [("its_weights", .ref W), ("its_begins", .ref B), ("its_ends", .ref E), ("its_mates", .ref M), ("its_partners", .ref P)]) := bt _ _ (by rw [upd_ne pG]; exact hO5.at_) (by simp [pB])
      refine ⟨_, rfl, p, _, dx, _, _, rfl, atp, c.c_Ends, c.n_its_begins, rfl, _, rfl, B, _, rfl, gB, _, rfl, _, _, rfl, rfl, _, o1, ?_⟩
      exact ⟨_, _, _, rfl, bt.trans (ButL.upd (by simp) _ _), dB2.congr fun i => uT_succ (m := -m) hj jL i⟩
    rintro σ H' ⟨x4, x6, x7, rfl, bt, dB'⟩
    rw [lk] at dB'
    have hGf : H' Gd = some (.frz oG2 (.dK kvs)) := bt _ _ upd_same (by simp [nGB])
    refine ⟨hGf, ?_⟩
    have bt6 : ButL [B] H5 (upd H' Gd (.dK kvs)) := fun b o e hb => by
      by_cases z : b = Gd
      · rw [z, upd_same, ← g15, ← z]; exact e
      · rw [upd_ne z]; exact bt b o (by rw [upd_ne z]; exact e) hb
    have dB6 : DI (upd H' Gd (.dK kvs)) B (bgs xs) (numV (bgs xs) (shU u G m)) := by
      have h1 := dB'.same (H' := upd H' Gd (.dK kvs)) fun o e => by rw [upd_ne nGB.symm]; exact e
      refine h1.congr fun i => ?_
      congr 1
      funext b
      unfold shU uT
      rw [List.take_length]
      by_cases hb : G b = true
      · rw [if_pos hb, if_pos ((g4' b).mpr hb)]; omega
      · rw [if_neg hb, if_neg fun q => hb ((g4' b).mp q)]
    have dE6 := dE5.same (H' := upd H' Gd (.dK kvs)) fun o e => bt6 _ _ e (by simp [hO.nBE.symm])
    have dC6 := dC5.same (H' := upd H' Gd (.dK kvs)) fun o e => bt6 _ _ e (by simp [nCB])
    have hO6 := hO5.but bt6 fun x hx => by rw [show x = B by simpa using hx]; exact dB5.isD
    generalize upd H' Gd (.dK kvs) = H6 at bt6 dB6 dE6 dC6 hO6 ⊢
    -- the ends
    obtain ⟨kvs2, ks2, c1, c2, c3, c4, c5⟩ := dC6.keys
    have lk2 : kvs2.length = ks2.length := by simpa using congrArg List.length c2
    have c4' : ∀ i, i ∈ ks2 ↔ (cm i).isSome = true := fun i => by rw [c4 i, piV_some]
    refine ⟨C, _, c1, True.intro, fun oC => ?_⟩
    have pC : p ≠ C := ne_of hO6.at_ c1 (by intro z; cases z)
    have pE : p ≠ E := fun z => by obtain ⟨k, hk⟩ := dE6.isD; have := hO6.at_; rw [z, hk] at this; cases this
    refine ⟨_, rfl, C, oC, rfl, .inl ⟨kvs2, upd_same, ?_⟩⟩
    refine for_it walk_keys (fun t σ H' => ∃ x4 x6 x7, σ = [some (.ref p), some (.ref Gd), some (.ref C), some (.ref so), x4, some (.int m), x6, x7] ∧ ButL [E] (upd H6 C (.frz oC (.dK kvs2))) H' ∧ DI H' E (eds xs) (numV (eds xs) (uT v ks2 t m))) ?_ ?_ ?_ ?_
    · exact ⟨_, _, _, rfl, ButL.refl _ _, by rw [uT_zero]; exact dE6.same fun o e => by rw [upd_ne nCE.symm]; exact e⟩
    · rintro t σ H' _ ⟨_, _, _, _, bt, _⟩
      exact bt _ _ upd_same (by simp [nCE])
    · rintro t x σ H' H'' ht ⟨x4, x6, x7, rfl, bt, dE'⟩ ⟨rfl, k, v', hk, rfl⟩
      obtain ⟨j, hj, rfl⟩ := key_get c2 hk
      have jL := cIn j ((c4' j).mp (List.mem_of_getElem? hj))
      have gE : DGet H'' E (.int j) (some (.int (v j))) := by
        have := dE'.get j
        rw [numV_get jL, uT_at c3 hj] at this
        exact this
      obtain ⟨o, o1, dE2⟩ := dE'.put jL lE (.int (v j + m))
      have atp : H'' p = some (.ins (He.ga K "Ends") dx [("its_weights", .ref W), ("its_begins", .ref B), ("its_ends", .ref E), ("its_mates", .ref M), ("its_partners", .ref P)]) := bt _ _ (by rw [upd_ne pC]; exact hO6.at_) (by simp [pE])
      refine ⟨_, rfl, p, _, dx, _, _, rfl, atp, c.c_Ends, c.n_its_ends, rfl, _, rfl, E, _, rfl, gE, _, rfl, _, _, rfl, rfl, _, o1, ?_⟩
      exact ⟨_, _, _, rfl, bt.trans (ButL.upd (by simp) _ _), dE2.congr fun i => uT_succ (m := m) hj jL i⟩
    rintro σ H' ⟨x4, x6, x7, rfl, bt, dE'⟩
    rw [lk2] at dE'
    refine ⟨bt _ _ upd_same (by simp [nCE]), ?_⟩
    have bt7 : ButL [E] H6 (upd H' C (.dK kvs2)) := fun b o e hb => by
      by_cases z : b = C
      · rw [z, upd_same, ← c1, ← z]; exact e
      · rw [upd_ne z]; exact bt b o (by rw [upd_ne z]; exact e) hb
    refine Qk _ m sh (dB6.same fun o e => bt7 _ _ e (by simp [hO.nBE])) ?_ ?_
    · have h1 := dE'.same (H' := upd H' C (.dK kvs2)) fun o e => by rw [upd_ne nCE.symm]; exact e
      refine h1.congr fun i => ?_
      congr 1
      funext b
      unfold shV uT
      rw [List.take_length]
      by_cases hb : (cm b).isSome = true
      · rw [if_pos hb, if_pos ((c4' b).mpr hb)]
      · rw [if_neg hb, if_neg fun q => hb ((c4' b).mp q)]
    · exact ((ButL.of_same s5).trans (bt6.mono fun x hx => by simp_all)).trans (bt7.mono fun x hx => by simp_all)
end
end Bw
end
section
set_option Elab.async false
set_option linter.all false
set_option maxRecDepth 100000
set_option maxHeartbeats 4000000
namespace Bw
open PySem PySem.Spec PyProof.Rows L2
section
variable {w : World} {K : PySem.W.Frag} {mg : Str → Option Value} {base : Heap}
/-- the ties that could be taken next -/
def openT (xs : List Bow) (G : Int → Bool) (c : Pi) : List Bow := xs.filter fun x => G x.1 && (c x.2).isNone
theorem openT_mem {xs : List Bow} {G : Int → Bool} {c : Pi} {x : Bow} : x ∈ openT xs G c ↔ x ∈ xs ∧ G x.1 = true ∧ c x.2 = none := by
  unfold openT
  rw [List.mem_filter, Bool.and_eq_true, Option.isNone_iff_eq_none]
/-- something is at hand: no shift is wanted -/
def Hand (xs : List Bow) (wt : Bow → Int) (u v : Int → Int) (G : Int → Bool) (c : Pi) : Prop := (∃ b, G b = true ∧ u b = 0) ∨ ∃ x ∈ xs, G x.1 = true ∧ c x.2 = none ∧ u x.1 + v x.2 - wt x = 0
noncomputable def msr (xs : List Bow) (wt : Bow → Int) (u v : Int → Int) (G : Int → Bool) (c : Pi) : Nat := 2 * (xs.filter fun x => (c x.2).isNone).length + @ite _ (Hand xs wt u v G c) (Classical.propDecidable _) 0 1
theorem msr_shift {xs : List Bow} {wt : Bow → Int} {u v u' v' : Int → Int} {G : Int → Bool} {c : Pi} (h : ¬ Hand xs wt u v G c) (h' : Hand xs wt u' v' G c) : msr xs wt u' v' G c < msr xs wt u v G c := by
  unfold msr
  rw [@if_neg _ (Classical.propDecidable _) h, @if_pos _ (Classical.propDecidable _) h']
  omega
theorem none_less {c : Pi} {e b : Int} (hn : c e = none) : ∀ {xs : List Bow} {x : Bow}, x ∈ xs → x.2 = e → (xs.filter fun x => ((c.put e b) x.2).isNone).length + 1 ≤ (xs.filter fun x => (c x.2).isNone).length
  | y :: xs, x, hx, e1 => by
    have mono : ∀ zs : List Bow, (zs.filter fun x => ((c.put e b) x.2).isNone).length ≤ (zs.filter fun x => (c x.2).isNone).length := fun zs => by
      have : zs.filter (fun x => ((c.put e b) x.2).isNone) = (zs.filter fun x => (c x.2).isNone).filter fun x => ((c.put e b) x.2).isNone := by
        rw [List.filter_filter]
        refine List.filter_congr fun z _ => ?_
        by_cases q : z.2 = e
        · rw [q, Pi.put_eq]; rfl
        · rw [Pi.put_ne _ q]; cases (c z.2).isNone <;> rfl
      rw [this]
      exact List.length_filter_le _ _
    by_cases q : y.2 = e
    · rw [List.filter_cons_of_neg (by rw [q, Pi.put_eq]; simp), List.filter_cons_of_pos (by rw [q, hn]; rfl), List.length_cons]
      have := mono xs
      omega
    · have hx' : x ∈ xs := (List.mem_cons.mp hx).resolve_left fun z => q (by rw [← z]; exact e1)
      have ih := none_less (b := b) hn hx' e1
      by_cases z : (c y.2).isNone = true
      · rw [List.filter_cons_of_pos (by rw [Pi.put_ne _ q]; exact z), List.filter_cons_of_pos (p := fun x : Bow => (c x.2).isNone) z, List.length_cons, List.length_cons]
        omega
      · rw [List.filter_cons_of_neg (by rw [Pi.put_ne _ q]; exact z), List.filter_cons_of_neg (p := fun x : Bow => (c x.2).isNone) z]
        exact ih
theorem msr_grow {xs : List Bow} {wt : Bow → Int} {u v u' v' : Int → Int} {G G' : Int → Bool} {c : Pi} {b e : Int} (hn : c e = none) (hx : (b, e) ∈ xs) : msr xs wt u v G' (c.put e b) < msr xs wt u' v' G c := by
  have := none_less (b := b) hn hx rfl
  unfold msr
  have h1 : @ite _ (Hand xs wt u v G' (c.put e b)) (Classical.propDecidable _) 0 1 ≤ 1 := by
    by_cases q : Hand xs wt u v G' (c.put e b)
    · rw [@if_pos _ (Classical.propDecidable _) q]; exact Nat.zero_le _
    · rw [@if_neg _ (Classical.propDecidable _) q]; exact Nat.le_refl _
  omega
def spSettle (K : PySem.W.Frag) : Sp := fun vs H Q _ => ∃ (p W B E M P dx : Addr) (od : Obj) (xs : List Bow) (wt : Bow → Int) (u v : Int → Int) (mu pi : Pi) (st : Int) (dn : Int → Prop), vs = [.ref p, .int st] ∧ EndO K H p W B E M P dx od xs wt ∧ EndS H B E M P xs u v mu pi ∧ Du xs wt u v mu pi ∧ Don u mu dn ∧ (∃ x ∈ xs, x.1 = st) ∧ mu st = none ∧ xs.length ≤ 1000 ∧
  ∀ H' u' v' mu' pi', EndS H' B E M P xs u' v' mu' pi' → Du xs wt u' v' mu' pi' → Don u' mu' (fun b => dn b ∨ b = st) → ButL [B, E, M, P] H H' → Q .non H'
theorem sc_Ends_settle : FnScope ["self", "start", "grown", "came", "begin", "empty", "some", "tight", "end", "one"] ["self", "start"] (defScope s_Ends_settle) := ⟨rfl, rfl, rfl, by decide +kernel, rfl, by decide +kernel, by decide +kernel⟩
theorem ok_Ends_settle (c : Cy w K mg base) : Dm PG w K mg base "Ends" "settle" 3 ["self", "start"] (spSettle K) := by
  obtain ⟨fd, F⟩ := c.fd_Ends_settle
  have D_Ends_slack := ok_Ends_slack c
  have D_Ends_flip := ok_Ends_flip c
  have D_Ends_leave := ok_Ends_leave c
  have D_Ends_shift := ok_Ends_shift c
  refine ⟨walkD F sc_Ends_settle (fun vs H Q E h => ?_) (fun cdv A outer s H vs Q E hr h => ?_) fun _ _ _ _ _ _ us hl => match us, hl with | [_, _], _ => rfl, c.t_Ends_settle, c.c_Ends⟩
  · obtain ⟨_, _, _, _, _, _, _, _, _, _, _, _, _, _, _, _, rfl, _⟩ := h
    rfl
  · obtain ⟨p, W, B, E, M, P, dx, od, xs, wt, u0, v0, mu, pi, st, dn, rfl, hO, hS, hD0, hdn0, hst, hmu, hlen, Qk⟩ := h
    have hu := hu_of hr
    have b1000 : (1000 : Nat) < sizeLine := by decide
    have lB : (bgs xs).length ≤ 1000 := by rw [List.length_map]; exact hlen
    have lE : (eds xs).length ≤ 1000 := by rw [List.length_map]; exact hlen
    refine ⟨_, (pss_cons (ps_asg (pe_tup (pa_cons (pe_disp (pps_cons (pv 1) pe_bl pps_nil) (by rfl) (by rfl) (fun z => by cases z) (by decide)) (pa_cons pe_dnewK pa_nil))) (pg_tup_k (K0 := K) (n := 2) (by rfl) (by rfl) (pgs_cons (pg_name (i := 2) sc_Ends_settle.nd rfl (by first | exact Or.inl rfl | exact Or.inr rfl)) (pgs_cons (pg_name (i := 3) sc_Ends_settle.nd rfl (by first | exact Or.inl rfl | exact Or.inr rfl)) pgs_nil))))
      (pss_one (ps_while PassesOwn.never (pt_val pe_bl) (pss_cons (ps_lock (ps_setLc (i := 5) rfl sc_Ends_settle.nd rfl rfl (sw_true rfl rfl rfl (by decide +kernel)) (pi_keys (pv 2)) (blkOk_by (own := [("begin", 4)]) (by show blkC ["self", "start", "grown", "came", "begin", "empty", "some", "tight", "end", "one"] (defScope s_Ends_settle) _ _ = true; decide +kernel)) (fun _ _ _ _ _ => (pg_name (i := 4) sc_Ends_settle.nd rfl (by first | exact Or.inl rfl | exact Or.inr rfl))) (fun _ _ _ _ _ => (pts_one (pt_cmpR op_eq (pe_dget hu (pe_fld_k (K0 := K) (by rfl) (pv 0)) (pv 4) (fun _ _ => rfl)) pe_int (nomark _)))) (fun _ _ _ _ _ => (pv 4))))
      (pss_cons (ps_if (pt_cmpR (op_neNil_k (K0 := K) (by rfl) hu) (pv 5) (pe_lst pa_nil) (nomark _)) (pss_cons (ps_expr (Dm.call (K0 := K) (by rfl) D_Ends_leave (hr.mono (by decide)) (pv 0) (pa_cons (pe_ix (ix_list_k (K0 := K) (by rfl)) (pv 5) pe_int (fun _ _ => rfl)) (pa_cons (pv 1) (pa_cons (pv 3) pa_nil)))))
      (pss_one ps_retN)) pss_nil)
      (pss_cons (ps_setLc (i := 6) rfl sc_Ends_settle.nd rfl rfl (sw_true rfl rfl rfl (by decide +kernel)) (pi_keys (pe_fld_k (K0 := K) (by rfl) (pv 0))) (blkOk_by (own := [("one", 9)]) (by show blkC ["self", "start", "grown", "came", "begin", "empty", "some", "tight", "end", "one"] (defScope s_Ends_settle) _ _ = true; decide +kernel)) (fun _ _ _ _ _ => (pg_name (i := 9) sc_Ends_settle.nd rfl (by first | exact Or.inl rfl | exact Or.inr rfl))) (fun _ _ _ _ _ => (pts_one (PW.pt (pw_and (pt_cmp (pc_din hu (pe_ix (ix_tup_k (K0 := K) (by rfl)) (pv 9) pe_int (fun _ _ => rfl)) (pv 2))) (pw_and1 (pt_cmp (pc_dnotin hu (pe_ix (ix_tup_k (K0 := K) (by rfl)) (pv 9) pe_int (fun _ _ => rfl)) (pv 3)))))))) (fun _ _ _ _ _ => (pv 9)))
      (pss_cons (ps_setLc (i := 7) rfl sc_Ends_settle.nd rfl rfl (sw_true rfl rfl rfl (by decide +kernel)) (pi_list_k (K0 := K) (by rfl) (pv 6)) (blkOk_by (own := [("one", 9)]) (by show blkC ["self", "start", "grown", "came", "begin", "empty", "some", "tight", "end", "one"] (defScope s_Ends_settle) _ _ = true; decide +kernel)) (fun _ _ _ _ _ => (pg_name (i := 9) sc_Ends_settle.nd rfl (by first | exact Or.inl rfl | exact Or.inr rfl))) (fun _ _ _ _ _ => (pts_one (pt_cmpR op_eq (Dm.call (K0 := K) (by rfl) D_Ends_slack (hr.mono (by decide)) (pv 0) (pa_cons (pv 9) pa_nil)) pe_int (nomark _)))) (fun _ _ _ _ _ => (pv 9)))
      (pss_one (ps_if (pt_cmpR (op_eqNil_k (K0 := K) (by rfl) hu) (pv 7) (pe_lst pa_nil) (nomark _)) (pss_one (ps_expr (Dm.call (K0 := K) (by rfl) D_Ends_shift (hr.mono (by decide)) (pv 0) (pa_cons (pv 2) (pa_cons (pv 3) (pa_cons (pv 6) pa_nil)))))) (pss_cons (ps_asg (pe_ix (ix_list_k (K0 := K) (by rfl)) (pv 7) pe_int (fun _ _ => rfl)) (pg_tup_k (K0 := K) (n := 2) (by rfl) (by rfl) (pgs_cons (pg_name (i := 4) sc_Ends_settle.nd rfl (by first | exact Or.inl rfl | exact Or.inr rfl)) (pgs_cons (pg_name (i := 8) sc_Ends_settle.nd rfl (by first | exact Or.inl rfl | exact Or.inr rfl)) pgs_nil))))
      (pss_cons (ps_dput hu (pv 3) (pv 8) (pv 4) rfl)
      (pss_cons (ps_if (pt_cmp (pc_dnotin hu (pv 8) (pe_fld_k (K0 := K) (by rfl) (pv 0)))) (pss_cons (ps_expr (Dm.call (K0 := K) (by rfl) D_Ends_flip (hr.mono (by decide)) (pv 0) (pa_cons (pv 8) (pa_cons (pv 1) (pa_cons (pv 3) pa_nil)))))
      (pss_one ps_retN)) pss_nil)
      (pss_one (ps_dput hu (pv 2) (pe_dget hu (pe_fld_k (K0 := K) (by rfl) (pv 0)) (pv 8) (fun _ _ => rfl)) pe_bl rfl)))))))))))))), ?_⟩
    have dds : ∀ x ∈ [B, E, M, P], ∃ kvs, H x = some (.dK kvs) := fun x hx => by
      simp only [List.mem_cons, List.not_mem_nil, or_false] at hx
      rcases hx with h | h | h | h <;> rw [h]
      · exact hS.db.isD
      · exact hS.de.isD
      · exact hS.dm.isD
      · exact hS.dp.isD
    refine fun Gd hGd => ⟨_, rfl, upd_same, [(.inl st, .bl true)], rfl, by show 1 ≤ 15; decide, fun C hC => ⟨by show 2 ≤ sizeLine; decide, fun T hT => ?_⟩⟩
    have sG : Same H (upd (upd H Gd (.dK [])) Gd (.dK (mergeK [] [(.inl st, .bl true)]))) := fun b o e => by
      rw [upd_ne (ne_of_none e hGd), upd_ne (ne_of_none e hGd)]; exact e
    have dG : DI (upd (upd H Gd (.dK [])) Gd (.dK (mergeK [] [(.inl st, .bl true)]))) Gd (bgs xs) (tV fun b => decide (b = st)) := by
      obtain ⟨x, hx, ex⟩ := hst
      refine ⟨[(.inl st, .bl true)], upd_same, by simp, fun q hq => ?_, fun i => ?_⟩
      · have : q = (.inl st, .bl true) := by simpa using hq
        rw [this]; exact ⟨st, List.mem_map.mpr ⟨x, hx, ex⟩, rfl⟩
      · unfold tV
        by_cases e : i = st
        · rw [if_pos (decide_eq_true e), e]; exact valV_pos rfl
        · rw [if_neg (by simpa using e), valV_neg fun z => e (by injection z with z; exact z.symm)]; rfl
    generalize upd (upd H Gd (.dK [])) Gd (.dK (mergeK [] [(.inl st, .bl true)])) = H1 at sG dG hC hT ⊢
    have sC := same_upd (o := .dK []) hC
    have dC : DI (upd H1 C (.dK [])) C (eds xs) (piV fun _ => none) := DI.nil _ upd_same
    have dG2 := dG.same (sC Gd)
    have nGC : Gd ≠ C := by obtain ⟨k, hk⟩ := dG.isD; exact ne_of_none hk hC
    have hCH : H C = none := by cases e : H C with | none => rfl | some o => rw [sG _ _ e] at hC; cases hC
    generalize upd H1 C (.dK []) = H2 at sC dC dG2 hT ⊢
    have sT := same_upd (o := .tup [.ref Gd, .ref C]) hT
    have eT : (upd H2 T (.tup [.ref Gd, .ref C])) T = some (.tup [.ref Gd, .ref C]) := upd_same
    have dG3 := dG2.same (sT Gd)
    have dC3 := dC.same (sT C)
    have s3 := (sG.trans sC).trans sT
    generalize upd H2 T (.tup [.ref Gd, .ref C]) = H3 at sT eT dG3 dC3 s3 ⊢
    have nG : ∀ x ∈ [B, E, M, P], Gd ≠ x ∧ C ≠ x := fun x hx => by
      obtain ⟨k, hk⟩ := dds x hx
      exact ⟨(ne_of_none hk hGd).symm, (ne_of_none hk hCH).symm⟩
    refine ⟨T, _, rfl, .inl (.inl eT), rfl, _, _, rfl, _, _, rfl, rfl, ?_⟩
    refine ⟨fun m σ H' => ∃ (x4 x5 x6 x7 x8 x9 : Option V) (u v : Int → Int) (G : Int → Bool) (cm : Pi) (r : Int → Nat), m = msr xs wt u v G cm ∧ σ = [some (.ref p), some (.int st), some (.ref Gd), some (.ref C), x4, x5, x6, x7, x8, x9] ∧ ButL [B, E, M, P] H H' ∧ EndS H' B E M P xs u v mu pi ∧ DI H' Gd (bgs xs) (tV G) ∧ DI H' C (eds xs) (piV cm) ∧ Du xs wt u v mu pi ∧ Don u mu dn ∧ Tr xs wt u v mu pi st G cm r,
      ⟨_, _, _, _, _, _, _, u0, v0, _, _, _, rfl, rfl, ButL.of_same s3, hS.same s3, dG3, dC3, hD0, hdn0, Tr.start hD0 hst hmu⟩, ?_⟩
    rintro m σ H' ⟨x4, x5, x6, x7, x8, x9, u, v, G, cm, r, rfl, rfl, bt, hS', dG', dC', hD, hdn, hT'⟩
    have hO' := hO.but bt dds
    have gIn : ∀ b, G b = true → b ∈ bgs xs := fun b hb => by obtain ⟨x, hx, e⟩ := hT'.gb b hb; exact List.mem_map.mpr ⟨x, hx, e⟩
    have cIn : ∀ e, (cm e).isSome = true → e ∈ eds xs := fun e he => by
      obtain ⟨b, hb⟩ := Option.isSome_iff_exists.mp he
      exact List.mem_map.mpr ⟨_, (hT'.ce e b hb).2.1, rfl⟩
    obtain ⟨kvs, ks, g1, g2, g3, g4, g5⟩ := dG'.keys
    have lk : kvs.length = ks.length := by simpa using congrArg List.length g2
    have g4' : ∀ i, i ∈ ks ↔ G i = true := fun i => by rw [g4 i, tV_some]
    refine ⟨true, rfl, ?_⟩
    refine iteT ⟨fun σ' H'' => ∃ m', m' < msr xs wt u v G cm ∧ _, fun σ' H'' h => h, ?_⟩
    -- empty
    refine ⟨Gd, _, g1, True.intro, fun oG => ?_⟩
    have pG : p ≠ Gd := ne_of hO'.at_ g1 (by intro z; cases z)
    have WG : W ≠ Gd := ne_of hO'.wg g1 (by intro z; cases z)
    refine ⟨_, rfl, Gd, oG, rfl, .inl ⟨kvs, upd_same, fun D hD' => ?_⟩⟩
    have DnG : D ≠ Gd := fun z => by rw [z, upd_same] at hD'; cases hD'
    refine lc_accW walk_keys (accF ks (fun b => decide (u b = 0)) fun b => V.int b) (fun H' s => s _ _ upd_same) (fun _ _ _ _ h => h.1) (by omega) hD' rfl (fun i x H4 hi hx s4 _ K1 K0 k1 k0 => ?_) fun H4 s4 e4 => ?_
    · obtain ⟨_, k, v', hk, rfl⟩ := hx
      obtain ⟨j, hj, rfl⟩ := key_get g2 hk
      have jm := (g4' j).mp (List.mem_of_getElem? hj)
      have gB : DGet H4 B (.int j) (some (.int (u j))) := by
        have := (hS'.db.same (H' := H4) fun o e => s4 _ _ (by rw [upd_ne (nG B (by simp)).1.symm]; exact e)).get j
        rw [numV_get (gIn j jm)] at this
        exact this
      refine ⟨rfl, _, rfl, p, _, dx, _, _, rfl, s4 _ _ (by rw [upd_ne pG]; exact hO'.at_), c.c_Ends, c.n_its_begins, rfl, _, rfl, B, _, rfl, gB, rfl, _, rfl, ?_⟩
      refine iteI (fun h => ?_) (fun h => ?_)
      · exact ⟨_, rfl, k1 _ _ (Same.refl _) (accF_yes hj (decide_eq_true h))⟩
      · exact k0 _ (Same.refl _) (accF_no hj (decide_eq_false h))
    rw [lk, accF_all rfl] at e4
    refine ⟨s4 _ _ upd_same, ?_⟩
    have s5 := same_unlock g1 s4
    have e5 : (upd H4 Gd (.dK kvs)) D = some (.lst ((ks.filter fun b => decide (u b = 0)).map fun b => V.int b)) := by rw [upd_ne DnG]; exact e4
    generalize upd H4 Gd (.dK kvs) = H5 at s5 e5 ⊢
    generalize hem : (ks.filter fun b => decide (u b = 0)) = em at e5
    have mem : ∀ b, b ∈ em ↔ G b = true ∧ u b = 0 := fun b => by rw [← hem, List.mem_filter, g4', decide_eq_true_eq]
    refine ⟨_, rfl, Nat.zero_le _, fun U hU => ⟨D, U, _, rfl, rfl, .inl (.inl ((same_upd hU) _ _ e5)), .inl (.inl upd_same), _, rfl, ?_⟩⟩
    have sU := same_upd (o := .lst []) hU
    have e6 := sU _ _ e5
    have s6 := s5.trans sU
    generalize upd H5 U (.lst []) = H6 at sU e6 s6 ⊢
    show if (!(em.map fun b => V.int b).isEmpty) = true then _ else _
    refine iteN (fun he => ?_) (fun he => ?_)
    · -- a begin needs none
      obtain ⟨b, l, rfl⟩ : ∃ b l, em = b :: l := by
        match em, he with
        | b :: l, _ => exact ⟨b, l, rfl⟩
      obtain ⟨hgb, hub⟩ := (mem b).mp (List.mem_cons_self ..)
      have h0 : ((b :: l).map fun b => V.int b)[0]? = some (.int b) := rfl
      have hO6 := hO'.same s6
      refine ⟨_, rfl, p, dx, _, rfl, hO6.at_, rfl, _, rfl, D, _, 0, _, rfl, rfl, .inl (.inl e6), atI_nat (j := 0) h0, _, rfl, _, rfl, p, W, B, E, M, P, dx, C, od, xs, wt, u, v, mu, pi, cm, st, b, G, r, rfl, hO6, hS'.dm.same (s6 M), hS'.dp.same (s6 P), dC'.same (s6 C), (nG M (by simp)).2, (nG P (by simp)).2, hlen, hD, hT', hgb, fun H7 mu' pi' hcs dM7 dP7 bt7 => ?_⟩
      have bt07 : ButL [B, E, M, P] H H7 := (bt.trans (ButL.of_same s6)).trans (bt7.mono fun x hx => by simp only [List.mem_cons, List.not_mem_nil, or_false] at hx ⊢; rcases hx with h | h <;> simp [h])
      have dB7 := (hS'.db.same (s6 B)).same (H' := H7) fun o e => bt7 _ _ e (by simp [hO.nBM, hO.nBP])
      have dE7 := (hS'.de.same (s6 E)).same (H' := H7) fun o e => bt7 _ _ e (by simp [hO.nEM, hO.nEP])
      rcases hcs with ⟨rfl, rfl, rfl⟩ | ⟨_, e, hF⟩
      · exact Qk H7 u v mu' pi' ⟨dB7, dE7, dM7, dP7⟩ hD (hdn.zero hub) bt07
      · exact Qk H7 u v mu' pi' ⟨dB7, dE7, dM7, dP7⟩ (hF.du hD) (hF.dnCut hdn hub) bt07
    · have hem0 : em = [] := by
        cases em with
        | nil => rfl
        | cons _ _ => cases he
      have noz : ∀ b, G b = true → u b ≠ 0 := fun b hb hz => by
        have := (mem b).mpr ⟨hb, hz⟩
        rw [hem0] at this
        exact List.not_mem_nil this
      have hO6 := hO'.same s6
      have hS6 := hS'.same s6
      have dG6 := dG'.same (s6 Gd)
      have dC6 := dC'.same (s6 C)
      have bt6 := bt.trans (ButL.of_same (l := [B, E, M, P]) s6)
      -- some
      refine ⟨_, rfl, p, _, dx, _, _, rfl, hO6.at_, c.c_Ends, c.n_its_weights, rfl, W, od, rfl, .inr ⟨_, hO6.wg, fun Z hZ => ?_⟩⟩
      refine lc_it walk_keysT (fun i H7 => Same H6 H7 ∧ ∃ qs : List (Addr × Bow), H7 Z = some (.lst (qs.map fun q => V.ref q.1)) ∧ (∀ q ∈ qs, H7 q.1 = some (.tup [.int q.2.1, .int q.2.2])) ∧ qs.map (·.2) = openT (xs.take i) G cm) ⟨same_upd hZ, [], upd_same, fun _ h => absurd h List.not_mem_nil, rfl⟩ (fun i H7 _ h => h.1 _ _ hO6.wg) (fun i x H7 H7' hi hP hx => ?_) fun H7 hP => ?_
      · obtain ⟨s7, qs, q1, q2, q3⟩ := hP
        obtain ⟨rfl, k, v', q, hk, rfl, hq⟩ := hx
        rw [List.getElem?_map] at hk
        obtain ⟨y, hy, ey⟩ := Option.map_eq_some_iff.mp hk
        injection ey with ey _
        subst ey
        have hq : H7' q = some (.tup [.int y.1, .int y.2]) := hq
        have i0 : ([V.int y.1, V.int y.2])[0]? = some (.int y.1) := rfl
        have i1 : ([V.int y.1, V.int y.2])[1]? = some (.int y.2) := rfl
        have tk1 : xs.take (i + 1) = xs.take i ++ [y] := by rw [List.take_add_one, hy]; rfl
        have no : ¬ (G y.1 = true ∧ cm y.2 = none) → openT (xs.take (i + 1)) G cm = openT (xs.take i) G cm := fun h => by
          unfold openT
          rw [tk1, List.filter_append, List.filter_cons_of_neg (by rw [Bool.and_eq_true, Option.isNone_iff_eq_none]; exact h)]
          exact List.append_nil _
        refine ⟨rfl, _, rfl, q, _, 0, _, rfl, rfl, .inl (.inl hq), atI_nat (j := 0) i0, _, rfl, Gd, _, rfl, (dG6.same (s7 Gd)).get y.1, _, rfl, ?_⟩
        rw [tV_some]
        refine iteB (fun h1 => ?_) (fun h1 => ?_)
        · refine ⟨_, rfl, q, _, 1, _, rfl, rfl, .inl (.inl hq), atI_nat (j := 1) i1, _, rfl, C, _, rfl, (dC6.same (s7 C)).get y.2, _, rfl, ?_⟩
          rw [piV_some]
          refine iteN (fun h2 => ?_) (fun h2 => ?_)
          · have h2 : cm y.2 = none := by simpa using h2
            refine ⟨_, rfl, _, q1, ?_, fun b o e => ?_, qs ++ [(q, y)], ?_, fun z hz => ?_, ?_⟩
            · have : qs.length ≤ i := by
                have h3 : (qs.map (·.2)).length ≤ (xs.take i).length := by rw [q3]; exact List.length_filter_le _ _
                rw [List.length_map, List.length_take] at h3
                omega
              have hi' : i < xs.length := by rw [List.length_map] at hi; exact hi
              rw [List.length_map]; omega
            · rw [upd_ne (ne_of_none e hZ)]; exact s7 _ _ e
            · rw [upd_same, List.map_append]; rfl
            · have zne : z.1 ≠ Z := by
                rcases List.mem_append.mp hz with h | h
                · have := q2 z h
                  exact fun w => by rw [w, q1] at this; cases this
                · have : z = (q, y) := by simpa using h
                  rw [this]
                  exact fun w => by rw [show q = Z from w, q1] at hq; cases hq
              rw [upd_ne zne]
              rcases List.mem_append.mp hz with h | h
              · exact q2 z h
              · have : z = (q, y) := by simpa using h
                rw [this]; exact hq
            · rw [List.map_append, q3]
              unfold openT
              rw [tk1, List.filter_append, List.filter_cons_of_pos (by rw [h1, h2]; rfl)]
              rfl
          · exact ⟨s7, qs, q1, q2, by rw [no fun q => by rw [q.2] at h2; cases h2]; exact q3⟩
        · exact ⟨s7, qs, q1, q2, by rw [no fun q => by rw [q.1] at h1; cases h1]; exact q3⟩
      obtain ⟨s7, qs, q1, q2, q3⟩ := hP
      rw [List.length_map, List.take_length] at q3
      have s67 := s7
      have hO7 := hO6.same s7
      have hS7 := hS6.same s7
      have dG7 := dG6.same (s7 Gd)
      have dC7 := dC6.same (s7 C)
      have bt7 := bt6.trans (ButL.of_same (l := [B, E, M, P]) s7)
      have mq : ∀ x, x ∈ qs.map (·.2) ↔ x ∈ xs ∧ G x.1 = true ∧ cm x.2 = none := fun x => by rw [q3]; exact openT_mem
      have lq : qs.length ≤ 1000 := by
        have h3 : (qs.map (·.2)).length ≤ xs.length := by rw [q3]; exact List.length_filter_le _ _
        rw [List.length_map] at h3
        omega
      -- tight
      refine ⟨_, rfl, Z, rfl, ⟨_, .inl (.inl q1)⟩, fun Y hY => ?_⟩
      refine lc_accL (accF qs (fun q => decide (u q.2.1 + v q.2.2 - wt q.2 = 0)) fun q => V.ref q.1) (.inl (.inl q1)) (by rw [List.length_map]; omega) hY rfl (fun i x H8 hx s8 _ K1 K0 k1 k0 => ?_) fun H8 s8 e8 => ?_
      · obtain ⟨q, hqi, rfl⟩ : ∃ q, qs[i]? = some q ∧ V.ref q.1 = x := by rw [List.getElem?_map] at hx; exact Option.map_eq_some_iff.mp hx
        have qm := List.mem_of_getElem? hqi
        obtain ⟨x1, _, _⟩ := (mq q.2).mp (List.mem_map.mpr ⟨q, qm, rfl⟩)
        refine ⟨rfl, _, rfl, p, dx, _, rfl, s8 _ _ hO7.at_, rfl, _, rfl, p, W, B, E, M, P, dx, q.1, od, xs, wt, u, v, q.2, rfl, hO7.same s8, hS7.db.same (s8 B), hS7.de.same (s8 E), s8 _ _ (q2 q qm), x1, rfl, _, rfl, ?_⟩
        refine iteI (fun h => ?_) (fun h => ?_)
        · exact ⟨_, rfl, k1 _ _ (Same.refl _) (accF_yes hqi (decide_eq_true h))⟩
        · exact k0 _ (Same.refl _) (accF_no hqi (decide_eq_false h))
      rw [accF_all (by rw [List.length_map])] at e8
      have hO8 := hO7.same s8
      have hS8 := hS7.same s8
      have dG8 := dG7.same (s8 Gd)
      have dC8 := dC7.same (s8 C)
      have bt8 := bt7.trans (ButL.of_same (l := [B, E, M, P]) s8)
      have q18 := s8 _ _ q1
      have q28 : ∀ q ∈ qs, H8 q.1 = some (.tup [.int q.2.1, .int q.2.2]) := fun q hq => s8 _ _ (q2 q hq)
      generalize hti : (qs.filter fun q => decide (u q.2.1 + v q.2.2 - wt q.2 = 0)) = ti at e8
      refine ⟨_, rfl, Nat.zero_le _, fun U2 hU2 => ⟨Y, U2, _, rfl, rfl, .inl (.inl ((same_upd hU2) _ _ e8)), .inl (.inl upd_same), _, rfl, ?_⟩⟩
      have sU2 := same_upd (o := .lst []) hU2
      have e9 := sU2 _ _ e8
      have q19 := sU2 _ _ q18
      have q29 : ∀ q ∈ qs, (upd H8 U2 (.lst [])) q.1 = some (.tup [.int q.2.1, .int q.2.2]) := fun q hq => sU2 _ _ (q28 q hq)
      have hO9 := hO8.same sU2
      have hS9 := hS8.same sU2
      have dG9 := dG8.same (sU2 Gd)
      have dC9 := dC8.same (sU2 C)
      have bt9 := bt8.trans (ButL.of_same (l := [B, E, M, P]) sU2)
      generalize upd H8 U2 (.lst []) = H9 at e9 q19 q29 hO9 hS9 dG9 dC9 bt9 ⊢
      show if (ti.map fun q => V.ref q.1).isEmpty = true then _ else _
      refine iteB (fun he => ?_) (fun he => ?_)
      · -- a shift
        have hti0 : ti = [] := by
          cases ti with
          | nil => rfl
          | cons _ _ => cases he
        have nos : ∀ x ∈ xs, G x.1 = true → cm x.2 = none → u x.1 + v x.2 - wt x ≠ 0 := fun x x1 x2 x3 hz => by
          obtain ⟨q, hq, e⟩ := List.mem_map.mp ((mq x).mpr ⟨x1, x2, x3⟩)
          have : q ∈ ti := by rw [← hti]; exact List.mem_filter.mpr ⟨hq, decide_eq_true (by rw [e]; exact hz)⟩
          rw [hti0] at this
          exact List.not_mem_nil this
        refine ⟨_, rfl, p, dx, _, rfl, hO9.at_, rfl, _, rfl, _, rfl, _, rfl, p, W, B, E, M, P, dx, Gd, C, Z, od, xs, wt, u, v, cm, G, qs, rfl, hO9, hS9.db, hS9.de, dG9, dC9, (nG B (by simp)).1, (nG E (by simp)).1, (nG B (by simp)).2, (nG E (by simp)).2, hlen, lq, q19, q29, mq, ⟨st, hT'.s1⟩, gIn, cIn, fun HA mm sh dBA dEA btA => ?_⟩
        have m0 : 0 ≤ mm := by
          rcases sh.h3 with ⟨b, h1, h2⟩ | ⟨x, h1, h2, h3, h4⟩
          · obtain ⟨x, hx, e⟩ := hT'.gb b h1
            have := hD.u0 x hx
            rw [e] at this
            omega
          · have := hD.cov x h1
            omega
        have nh : ¬ Hand xs wt u v G cm := fun h => by
          rcases h with ⟨b, h1, h2⟩ | ⟨x, h1, h2, h3, h4⟩
          · exact noz b h1 h2
          · exact nos x h1 h2 h3 h4
        have hh : Hand xs wt (shU u G mm) (shV v cm mm) G cm := by
          rcases sh.h3 with ⟨b, h1, h2⟩ | ⟨x, h1, h2, h3, h4⟩
          · refine .inl ⟨b, h1, ?_⟩
            unfold shU
            rw [if_pos h1]; omega
          · refine .inr ⟨x, h1, h2, h3, ?_⟩
            unfold shU shV
            rw [if_pos h2, if_neg (by rw [h3]; simp)]; omega
        refine ⟨_, msr_shift nh hh, _, _, _, _, _, _, _, _, _, _, _, rfl, rfl, bt9.trans (btA.mono fun x hx => by simp only [List.mem_cons, List.not_mem_nil, or_false] at hx ⊢; rcases hx with h | h <;> simp [h]), ⟨dBA, dEA, hS9.dm.same fun o e => btA _ _ e (by simp [hO.nBM.symm, hO.nEM.symm]), hS9.dp.same fun o e => btA _ _ e (by simp [hO.nBP.symm, hO.nEP.symm])⟩, dG9.same fun o e => btA _ _ e (by simp [(nG B (by simp)).1, (nG E (by simp)).1]), dC9.same fun o e => btA _ _ e (by simp [(nG B (by simp)).2, (nG E (by simp)).2]), hT'.shiftD hD m0 sh.h1 sh.h2, hdn.shift m0, hT'.shiftT hD mm⟩
      · -- a tight tie
        obtain ⟨q, l, rfl⟩ : ∃ q l, ti = q :: l := by
          match ti, he with
          | q :: l, _ => exact ⟨q, l, rfl⟩
        have hqt : q ∈ qs ∧ u q.2.1 + v q.2.2 - wt q.2 = 0 := by
          have : q ∈ q :: l := List.mem_cons_self ..
          rw [← hti] at this
          obtain ⟨a, b⟩ := List.mem_filter.mp this
          exact ⟨a, of_decide_eq_true b⟩
        obtain ⟨hq1, hq0⟩ := hqt
        obtain ⟨x1, x2, x3⟩ := (mq q.2).mp (List.mem_map.mpr ⟨q, hq1, rfl⟩)
        have htie : u q.2.1 + v q.2.2 = wt (q.2.1, q.2.2) := by show _ = wt q.2; omega
        have hxe : (q.2.1, q.2.2) ∈ xs := x1
        have h0 : (((q :: l).map fun q => V.ref q.1))[0]? = some (.ref q.1) := rfl
        refine ⟨_, rfl, Y, _, 0, _, rfl, rfl, .inl (.inl e9), atI_nat (j := 0) h0, q.1, _, rfl, .inl (.inl (q29 q hq1)), rfl, _, _, rfl, _, _, rfl, rfl, ?_⟩
        obtain ⟨o, o1, dCA⟩ := dC9.put (j := q.2.2) (List.mem_map.mpr ⟨_, x1, rfl⟩) lE (.int q.2.1)
        have dCA := dCA.congr fun i => piV_put (f := cm) i
        refine ⟨_, rfl, _, rfl, _, rfl, C, _, rfl, o1, ?_⟩
        have nC : ∀ x ∈ [B, E, M, P], x ≠ C := fun x hx => (nG x hx).2.symm
        have btC : ∀ b o', H9 b = some o' → b ≠ C → (upd H9 C o) b = some o' := fun b o' e h => by rw [upd_ne h]; exact e
        have pC : p ≠ C := fun z => by obtain ⟨k, hk⟩ := dC9.isD; have := hO9.at_; rw [z, hk] at this; cases this
        have WC : W ≠ C := fun z => by obtain ⟨k, hk⟩ := dC9.isD; have := hO9.wg; rw [z, hk] at this; cases this
        have hOA : EndO K (upd H9 C o) p W B E M P dx od xs wt := { hO9 with at_ := btC _ _ hO9.at_ pC, wg := btC _ _ hO9.wg WC }
        have hSA : EndS (upd H9 C o) B E M P xs u v mu pi := ⟨hS9.db.same fun o' e => btC _ _ e (nC B (by simp)), hS9.de.same fun o' e => btC _ _ e (nC E (by simp)), hS9.dm.same fun o' e => btC _ _ e (nC M (by simp)), hS9.dp.same fun o' e => btC _ _ e (nC P (by simp))⟩
        have dGA := dG9.same (H' := upd H9 C o) fun o' e => btC _ _ e nGC
        have btA : ButL [B, E, M, P] H (upd H9 C o) := fun b o' e h => by rw [upd_ne (ne_of_none e hCH)]; exact bt9 b o' e h
        generalize upd H9 C o = HA at hOA hSA dGA btA dCA ⊢
        refine ⟨_, rfl, _, rfl, p, _, dx, _, _, rfl, hOA.at_, c.c_Ends, c.n_its_partners, rfl, P, _, rfl, hSA.dp.get q.2.2, _, rfl, ?_⟩
        show if (!(piV pi q.2.2).isSome) = true then _ else _
        rw [piV_some]
        refine iteN (fun hp => ?_) (fun hp => ?_)
        · -- it is free
          have hp : pi q.2.2 = none := by simpa using hp
          refine ⟨_, rfl, p, dx, _, rfl, hOA.at_, rfl, _, rfl, _, rfl, _, rfl, p, W, B, E, M, P, dx, C, od, xs, wt, u, v, mu, pi, cm.put q.2.2 q.2.1, st, q.2.2, _, rfl, hOA, hSA.dm, hSA.dp, dCA, (nG M (by simp)).2, (nG P (by simp)).2, hlen, gIn st hT'.s1, hT'.hole hD x2 x3 hxe htie hp, fun HB mu' pi' hF dMB dPB btB => ?_⟩
          exact Qk HB u v mu' pi' ⟨hSA.db.same fun o e => btB _ _ e (by simp [hO.nBM, hO.nBP]), hSA.de.same fun o e => btB _ _ e (by simp [hO.nEM, hO.nEP]), dMB, dPB⟩ (hF.du hD) (hF.dn hdn) (btA.trans (btB.mono fun x hx => by simp only [List.mem_cons, List.not_mem_nil, or_false] at hx ⊢; rcases hx with h | h <;> simp [h]))
        · -- its partner grows
          obtain ⟨b2, hp⟩ := Option.isSome_iff_exists.mp hp
          have b2L : b2 ∈ bgs xs := List.mem_map.mpr ⟨_, (hD.edge b2 _ (hD.bwd _ _ hp)).1, rfl⟩
          have gP : DGet HA P (.int q.2.2) (some (.int b2)) := by
            have := hSA.dp.get q.2.2
            rw [piV_get hp] at this
            exact this
          obtain ⟨o2, o3, dGB⟩ := dGA.put b2L lB (.bl true)
          have dGB := dGB.congr fun i => tV_put (G := G) i
          refine ⟨_, rfl, _, rfl, p, _, dx, _, _, rfl, hOA.at_, c.c_Ends, c.n_its_partners, rfl, _, rfl, P, _, rfl, gP, Gd, _, rfl, o3, ?_⟩
          have nGx : ∀ x ∈ [B, E, M, P], x ≠ Gd := fun x hx => (nG x hx).1.symm
          refine ⟨_, msr_grow x3 hxe, _, _, _, _, _, _, _, _, _, _, _, rfl, rfl, fun b o' e h => ?_, ⟨hSA.db.same fun o' e => ?_, hSA.de.same fun o' e => ?_, hSA.dm.same fun o' e => ?_, hSA.dp.same fun o' e => ?_⟩, dGB, dCA.same fun o' e => ?_, hD, hdn, hT'.grow hD x2 x3 hxe htie hp⟩
          · rw [upd_ne (ne_of_none e hGd)]; exact btA b o' e h
          · rw [upd_ne (nGx B (by simp))]; exact e
          · rw [upd_ne (nGx E (by simp))]; exact e
          · rw [upd_ne (nGx M (by simp))]; exact e
          · rw [upd_ne (nGx P (by simp))]; exact e
          · rw [upd_ne nGC.symm]; exact e
end
end Bw
end
section
set_option Elab.async false
set_option linter.all false
set_option maxRecDepth 100000
set_option maxHeartbeats 4000000
namespace Bw
open PySem PySem.Spec PyProof.Rows L2
/-- the greatest weight at a begin -/
def mx (wt : Bow → Int) (l : List Bow) (b : Int) : Int := l.foldl (fun a x => if x.1 = b then max (wt x) a else a) 0
theorem mx_snoc (wt : Bow → Int) (l : List Bow) (x : Bow) (b : Int) : mx wt (l ++ [x]) b = if x.1 = b then max (wt x) (mx wt l b) else mx wt l b := by
  unfold mx
  rw [List.foldl_append]
  rfl
theorem mx_none {wt : Bow → Int} {b : Int} : ∀ (l : List Bow) (a : Int), (∀ x ∈ l, x.1 ≠ b) → l.foldl (fun a x => if x.1 = b then max (wt x) a else a) a = a
  | [], _, _ => rfl
  | x :: l, a, h => by
    rw [List.foldl_cons, if_neg (h x (List.mem_cons_self ..))]
    exact mx_none l a fun y hy => h y (List.mem_cons_of_mem _ hy)
theorem mx_le {wt : Bow → Int} {b : Int} : ∀ (l : List Bow) (a : Int), a ≤ l.foldl (fun a x => if x.1 = b then max (wt x) a else a) a ∧ ∀ x ∈ l, x.1 = b → wt x ≤ l.foldl (fun a x => if x.1 = b then max (wt x) a else a) a
  | [], a => ⟨Int.le_refl _, fun _ h => absurd h List.not_mem_nil⟩
  | x :: l, a => by
    rw [List.foldl_cons]
    obtain ⟨h1, h2⟩ := mx_le (wt := wt) (b := b) l (if x.1 = b then max (wt x) a else a)
    refine ⟨Int.le_trans ?_ h1, fun y hy e => ?_⟩
    · split <;> omega
    · rcases List.mem_cons.mp hy with q | q
      · rw [q] at e ⊢
        rw [if_pos e] at h1 ⊢
        omega
      · exact h2 y q e
section
variable {w : World} {K : PySem.W.Frag} {mg : Str → Option Value} {base : Heap}
def spEndInit (K : PySem.W.Frag) : Sp := fun vs H Q _ => ∃ (p W dx : Addr) (od : Obj) (xs : List Bow) (wt : Bow → Int), vs = [.ref p, .ref W] ∧ H p = some (.ins (He.ga K "Ends") dx []) ∧ H W = some (.frz od (.dT (xs.map fun x => (bk x, V.int (wt x))))) ∧ xs.Nodup ∧ xs.length ≤ 1000 ∧
  ∀ H' B E M P u v mu pi, EndO K H' p W B E M P dx od xs wt → EndS H' B E M P xs u v mu pi → Du xs wt u v mu pi → (∀ x ∈ xs, 0 < u x.1 → (mu x.1).isSome = true) → (∀ b o, H b = some o → b ≠ p → H' b = some o) → Q .non H'
theorem sc_Ends_init : FnScope ["self", "weights", "begin", "end", "many"] ["self", "weights"] (defScope s_Ends_init) := ⟨rfl, rfl, rfl, by decide +kernel, rfl, by decide +kernel, by decide +kernel⟩
theorem ok_Ends_init (c : Cy w K mg base) : Di PG w K mg base "Ends" 4 ["self", "weights"] (spEndInit K) := by
  obtain ⟨fd, F⟩ := c.fd_Ends_init
  have D_Ends_settle := ok_Ends_settle c
  refine ⟨walkD F sc_Ends_init (fun vs H Q E h => ?_) (fun cdv A outer s H vs Q E hr h => ?_) fun _ _ _ _ _ _ us hl => match us, hl with | [_, _], _ => rfl, c.k_Ends, c.m_Ends⟩
  · obtain ⟨a, b, _, _, _, _, rfl, _⟩ := h
    rfl
  · obtain ⟨p, W, dx, od, xs, wt, rfl, hp, hW, nd, hlen, Qk⟩ := h
    have hu := hu_of hr
    have lB : (bgs xs).length ≤ 1000 := by rw [List.length_map]; exact hlen
    have lE : (eds xs).length ≤ 1000 := by rw [List.length_map]; exact hlen
    refine ⟨_, (pss_cons (ps_fld_k (K0 := K) (by rfl) (pv 0) (pv 1) rfl)
      (pss_cons (ps_asg (pe_tup (pa_cons pe_dnewK (pa_cons pe_dnewK pa_nil))) (pg_tup_k (K0 := K) (n := 2) (by rfl) (by rfl) (pgs_cons (pg_fld_k (K0 := K) (by rfl) (pv 0)) (pgs_cons (pg_fld_k (K0 := K) (by rfl) (pv 0)) pgs_nil))))
      (pss_cons (ps_for PassesOwn.never rfl (pi_itemsT (pv 1)) (pg_tup_k (K0 := K) (n := 2) (by rfl) (by rfl) (pgs_cons (pg_tup_k (K0 := K) (n := 2) (by rfl) (by rfl) (pgs_cons (pg_name (i := 2) sc_Ends_init.nd rfl (by first | exact Or.inl rfl | exact Or.inr rfl)) (pgs_cons (pg_name (i := 3) sc_Ends_init.nd rfl (by first | exact Or.inl rfl | exact Or.inr rfl)) pgs_nil))) (pgs_cons (pg_name (i := 4) sc_Ends_init.nd rfl (by first | exact Or.inl rfl | exact Or.inr rfl)) pgs_nil))) (pss_cons (ps_dput hu (pe_fld_k (K0 := K) (by rfl) (pv 0)) (pv 2) (pe_callB (call_max2 rfl) (by rfl) c.f_max (by decide +kernel) (pa_cons (pv 4) (pa_cons (pe_dget2 hu (pe_fld_k (K0 := K) (by rfl) (pv 0)) (pv 2) pe_int ⟨rfl, rfl, rfl, rfl⟩) pa_nil))) rfl)
      (pss_one (ps_dput hu (pe_fld_k (K0 := K) (by rfl) (pv 0)) (pv 3) pe_int rfl))))
      (pss_cons (ps_asg (pe_tup (pa_cons pe_dnewK (pa_cons pe_dnewK pa_nil))) (pg_tup_k (K0 := K) (n := 2) (by rfl) (by rfl) (pgs_cons (pg_fld_k (K0 := K) (by rfl) (pv 0)) (pgs_cons (pg_fld_k (K0 := K) (by rfl) (pv 0)) pgs_nil))))
      (pss_one (ps_for PassesOwn.never rfl (pi_list_k (K0 := K) (by rfl) (pe_callB (cr_sortedDK rfl) (by rfl) c.f_sorted (by decide +kernel) (pa_cons (pe_fld_k (K0 := K) (by rfl) (pv 0)) pa_nil))) (pg_name (i := 2) sc_Ends_init.nd rfl (by first | exact Or.inl rfl | exact Or.inr rfl)) (pss_one (ps_expr (Dm.call (K0 := K) (by rfl) D_Ends_settle (hr.mono (by decide)) (pv 0) (pa_cons (pv 2) pa_nil)))))))))), ?_⟩
    refine ⟨_, rfl, _, rfl, p, _, dx, _, rfl, hp, c.c_Ends, c.n_its_weights, (by show 0 < 1000; decide), ?_⟩
    have p1 : (upd H p (.ins (He.ga K "Ends") dx (putF "its_weights" (.ref W) []))) p = some (.ins (He.ga K "Ends") dx [("its_weights", .ref W)]) := upd_same
    have b1 : ∀ b o, H b = some o → b ≠ p → (upd H p (.ins (He.ga K "Ends") dx (putF "its_weights" (.ref W) []))) b = some o := fun b o e h => by rw [upd_ne h]; exact e
    generalize upd H p (.ins (He.ga K "Ends") dx (putF "its_weights" (.ref W) [])) = H1 at p1 b1 ⊢
    refine fun B hB E hE => ⟨by show 2 ≤ sizeLine; decide, fun T hT => ?_⟩
    have sB := same_upd (o := .dK []) hB
    have n2 : (upd H1 B (.dK [])) B = some (.dK []) := upd_same
    generalize upd H1 B (.dK []) = H2 at sB n2 hE hT ⊢
    have sE := same_upd (o := .dK []) hE
    have l3 : (upd H2 E (.dK [])) E = some (.dK []) := upd_same
    generalize upd H2 E (.dK []) = H3 at sE l3 hT ⊢
    have sT := same_upd (o := .tup [.ref B, .ref E]) hT
    have t4 : (upd H3 T (.tup [.ref B, .ref E])) T = some (.tup [.ref B, .ref E]) := upd_same
    generalize upd H3 T (.tup [.ref B, .ref E]) = H4 at sT t4 ⊢
    have s14 := (sB.trans sE).trans sT
    have p4 := s14 _ _ p1
    have n4 := sT _ _ (sE _ _ n2)
    have l4 := sT _ _ l3
    have nBE : B ≠ E := ne_of_none n2 hE
    have nWp : W ≠ p := fun z => by rw [z, hp] at hW; cases hW
    have npB : B ≠ p := fun e => by rw [e] at n4; rw [n4] at p4; cases p4
    have npE : E ≠ p := fun e => by rw [e] at l4; rw [l4] at p4; cases p4
    have hBH : ∀ b o, H b = some o → b ≠ p → b ≠ B ∧ b ≠ E := fun b o e h => ⟨fun z => (by have := b1 b o e h; rw [z, hB] at this; cases this), fun z => (by have := sB _ _ (b1 b o e h); rw [z, hE] at this; cases this)⟩
    refine ⟨T, _, rfl, .inl (.inl t4), rfl, _, _, rfl, _, rfl, p, _, dx, _, rfl, p4, c.c_Ends, c.n_its_begins, (by show 1 < 1000; decide), ?_⟩
    refine ⟨_, _, rfl, _, rfl, p, _, dx, _, rfl, upd_same, c.c_Ends, c.n_its_ends, (by show 2 < 1000; decide), rfl, ?_⟩
    have e5 : ∀ (o o' : HO) b, b ≠ p → (upd (upd H4 p o) p o') b = H4 b := fun o o' b h => by rw [upd_ne h, upd_ne h]
    generalize hH5 : upd (upd H4 p (.ins (He.ga K "Ends") dx (putF "its_begins" (.ref B) [("its_weights", .ref W)]))) p (.ins (He.ga K "Ends") dx (putF "its_ends" (.ref E) (putF "its_begins" (.ref B) [("its_weights", .ref W)]))) = H5
    have p5 : H5 p = some (.ins (He.ga K "Ends") dx [("its_weights", .ref W), ("its_begins", .ref B), ("its_ends", .ref E)]) := by rw [← hH5]; exact upd_same
    have b5 : ∀ b o, H b = some o → b ≠ p → H5 b = some o := fun b o e h => by rw [← hH5, e5 _ _ _ h]; exact s14 _ _ (b1 b o e h)
    have B5 : H5 B = some (.dK []) := by rw [← hH5, e5 _ _ _ npB]; exact n4
    have E5 : H5 E = some (.dK []) := by rw [← hH5, e5 _ _ _ npE]; exact l4
    clear hH5
    have W5 := b5 _ _ hW nWp
    -- the numbers at first
    refine ⟨_, rfl, W, od, _, rfl, W5, ?_⟩
    refine for_it walk_itemsT (fun t σ H' => ∃ x2 x3 x4, σ = [some (.ref p), some (.ref W), x2, x3, x4] ∧ ButL [B, E] H5 H' ∧ DI H' B (bgs xs) (numV (bgs (xs.take t)) (mx wt (xs.take t))) ∧ DI H' E (eds xs) (numV (eds (xs.take t)) fun _ => 0)) ?_ ?_ ?_ ?_
    · exact ⟨_, _, _, rfl, ButL.refl _ _, (DI.nil _ B5).congr fun i => if_neg List.not_mem_nil, (DI.nil _ E5).congr fun i => if_neg List.not_mem_nil⟩
    · rintro t σ H' _ ⟨_, _, _, _, bt, _⟩
      exact bt _ _ W5 (by simp [(hBH _ _ hW nWp).1, (hBH _ _ hW nWp).2])
    · rintro t x σ H' H'' ht ⟨x2, x3, x4, rfl, bt, dB, dE⟩ ⟨T2, k, v', q, hk, rfl, hT2, hq, rfl⟩
      rw [List.getElem?_map] at hk
      obtain ⟨y, hy, ey⟩ := Option.map_eq_some_iff.mp hk
      injection ey with e1 e2
      subst e1 e2
      have hq : H' q = some (.tup [.int y.1, .int y.2]) := hq
      have ym := List.mem_of_getElem? hy
      have sT2 := same_upd (o := .tup [.ref q, .int (wt y)]) hT2
      have eT2 : (upd H' T2 (.tup [.ref q, .int (wt y)])) T2 = some (.tup [.ref q, .int (wt y)]) := upd_same
      have bt2 := bt.trans (ButL.of_same (l := [B, E]) sT2)
      have dB2 := dB.same (sT2 B)
      have dE2 := dE.same (sT2 E)
      have hq2 := sT2 _ _ hq
      generalize upd H' T2 (.tup [.ref q, .int (wt y)]) = H6 at sT2 eT2 bt2 dB2 dE2 hq2 ⊢
      have p6 := bt2 _ _ p5 (by simp [npB.symm, npE.symm])
      refine ⟨T2, _, rfl, .inl (.inl eT2), rfl, _, _, rfl, ⟨q, _, rfl, .inl (.inl hq2), rfl, _, _, rfl, _, _, rfl, rfl, _, _, rfl, rfl, ?_⟩⟩
      have gm : (numV (bgs (xs.take t)) (mx wt (xs.take t)) y.1).getD (.int 0) = .int (mx wt (xs.take t) y.1) := by
        unfold numV
        by_cases h : y.1 ∈ bgs (xs.take t)
        · rw [if_pos h]; rfl
        · rw [if_neg h]
          have : mx wt (xs.take t) y.1 = 0 := mx_none _ _ fun x hx e => h (List.mem_map.mpr ⟨x, hx, e⟩)
          rw [this]; rfl
      have tk1 : xs.take (t + 1) = xs.take t ++ [y] := by rw [List.take_add_one, hy]; rfl
      refine ⟨_, rfl, _, rfl, p, _, dx, _, _, rfl, p6, c.c_Ends, c.n_its_begins, rfl, B, rfl, dB2.isD', _, rfl, _, dB2.get y.1, ?_⟩
      rw [gm]
      obtain ⟨o, o1, dB3⟩ := dB2.put (j := y.1) (List.mem_map.mpr ⟨y, ym, rfl⟩) lB (.int (if mx wt (xs.take t) y.1 > wt y then mx wt (xs.take t) y.1 else wt y))
      refine ⟨_, _, rfl, _, rfl, p, _, dx, _, _, rfl, p6, c.c_Ends, c.n_its_begins, rfl, _, rfl, B, _, rfl, o1, ?_⟩
      have bt3 := bt2.trans (ButL.upd (l := [B, E]) (d := B) (by simp) H6 o)
      have dE3 := dE2.same (H' := upd H6 B o) fun o' e => by rw [upd_ne nBE.symm]; exact e
      generalize upd H6 B o = H7 at bt3 dE3 dB3 ⊢
      have p7 := bt3 _ _ p5 (by simp [npB.symm, npE.symm])
      obtain ⟨o2, o3, dE4⟩ := dE3.put (j := y.2) (List.mem_map.mpr ⟨y, ym, rfl⟩) lE (.int 0)
      refine ⟨_, rfl, p, _, dx, _, _, rfl, p7, c.c_Ends, c.n_its_ends, rfl, _, rfl, E, _, rfl, o3, ?_⟩
      refine ⟨_, _, _, rfl, bt3.trans (ButL.upd (d := E) (by simp) H7 o2), (dB3.same (H' := upd H7 E o2) fun o' e => by rw [upd_ne nBE]; exact e).congr fun i => ?_, dE4.congr fun i => ?_⟩
      · have em : mx wt (xs.take (t + 1)) y.1 = if mx wt (xs.take t) y.1 > wt y then mx wt (xs.take t) y.1 else wt y := by
          rw [tk1, mx_snoc, if_pos rfl]
          split <;> omega
        by_cases h : i = y.1
        · rw [if_pos h, h, numV_get (by rw [tk1]; simp), em]
        · rw [if_neg h]
          have e3 : mx wt (xs.take (t + 1)) i = mx wt (xs.take t) i := by rw [tk1, mx_snoc, if_neg (Ne.symm h)]
          unfold numV
          have e4 : i ∈ bgs (xs.take (t + 1)) ↔ i ∈ bgs (xs.take t) := by
            rw [tk1]; unfold bgs
            rw [List.map_append, List.mem_append]
            exact ⟨fun q => q.elim id fun q => absurd (by simpa using q) h, .inl⟩
          by_cases hi : i ∈ bgs (xs.take t)
          · rw [if_pos hi, if_pos (e4.mpr hi), e3]
          · rw [if_neg hi, if_neg fun q => hi (e4.mp q)]
      · by_cases h : i = y.2
        · rw [if_pos h, h, numV_get (by rw [tk1]; simp)]
        · rw [if_neg h]
          unfold numV
          have e4 : i ∈ eds (xs.take (t + 1)) ↔ i ∈ eds (xs.take t) := by
            rw [tk1]; unfold eds
            rw [List.map_append, List.mem_append]
            exact ⟨fun q => q.elim id fun q => absurd (by simpa using q) h, .inl⟩
          by_cases hi : i ∈ eds (xs.take t)
          · rw [if_pos hi, if_pos (e4.mpr hi)]
          · rw [if_neg hi, if_neg fun q => hi (e4.mp q)]
    rintro σ H' ⟨x2, x3, x4, rfl, bt, dB, dE⟩
    rw [List.length_map, List.take_length] at dB dE
    have p6 := bt _ _ p5 (by simp [npB.symm, npE.symm])
    have b6 : ∀ b o, H b = some o → b ≠ p → H' b = some o := fun b o e h => bt _ _ (b5 b o e h) (by simp [(hBH b o e h).1, (hBH b o e h).2])
    -- mates and partners
    refine fun M hM P hP => ⟨by show 2 ≤ sizeLine; decide, fun T3 hT3 => ?_⟩
    have sM := same_upd (o := .dK []) hM
    have m7 : (upd H' M (.dK [])) M = some (.dK []) := upd_same
    have nBM : B ≠ M := by obtain ⟨k, hk⟩ := dB.isD; exact ne_of_none hk hM
    have nEM : E ≠ M := by obtain ⟨k, hk⟩ := dE.isD; exact ne_of_none hk hM
    have hMH : ∀ b o, H b = some o → b ≠ p → b ≠ M := fun b o e h => ne_of_none (b6 b o e h) hM
    have pM : M ≠ p := (ne_of_none p6 hM).symm
    have nBP' : ∀ o, H' B = some o → B ≠ P := fun o e => ne_of_none (sM _ _ e) hP
    have nBP : B ≠ P := by obtain ⟨k, hk⟩ := dB.isD; exact nBP' _ hk
    have nEP : E ≠ P := by obtain ⟨k, hk⟩ := dE.isD; exact ne_of_none (sM _ _ hk) hP
    have hPH : ∀ b o, H b = some o → b ≠ p → b ≠ P := fun b o e h => ne_of_none (sM _ _ (b6 b o e h)) hP
    have pP : P ≠ p := (ne_of_none (sM _ _ p6) hP).symm
    have nMP : M ≠ P := ne_of_none m7 hP
    generalize upd H' M (.dK []) = H7 at sM m7 hP hT3 ⊢
    have sP := same_upd (o := .dK []) hP
    have q8 : (upd H7 P (.dK [])) P = some (.dK []) := upd_same
    generalize upd H7 P (.dK []) = H8 at sP q8 hT3 ⊢
    have sT3 := same_upd (o := .tup [.ref M, .ref P]) hT3
    have t9 : (upd H8 T3 (.tup [.ref M, .ref P])) T3 = some (.tup [.ref M, .ref P]) := upd_same
    generalize upd H8 T3 (.tup [.ref M, .ref P]) = H9 at sT3 t9 ⊢
    have s69 := (sM.trans sP).trans sT3
    have p9 := s69 _ _ p6
    refine ⟨T3, _, rfl, .inl (.inl t9), rfl, _, _, rfl, _, rfl, p, _, dx, _, rfl, p9, c.c_Ends, c.n_its_mates, (by show 3 < 1000; decide), ?_⟩
    refine ⟨_, _, rfl, _, rfl, p, _, dx, _, rfl, upd_same, c.c_Ends, c.n_its_partners, (by show 4 < 1000; decide), rfl, ?_⟩
    generalize hHA : upd (upd H9 p (.ins (He.ga K "Ends") dx (putF "its_mates" (.ref M) [("its_weights", .ref W), ("its_begins", .ref B), ("its_ends", .ref E)]))) p (.ins (He.ga K "Ends") dx (putF "its_partners" (.ref P) (putF "its_mates" (.ref M) [("its_weights", .ref W), ("its_begins", .ref B), ("its_ends", .ref E)]))) = HA
    have pA : HA p = some (.ins (He.ga K "Ends") dx [("its_weights", .ref W), ("its_begins", .ref B), ("its_ends", .ref E), ("its_mates", .ref M), ("its_partners", .ref P)]) := by rw [← hHA]; exact upd_same
    have bA : ∀ b o, H9 b = some o → b ≠ p → HA b = some o := fun b o e h => by rw [← hHA, upd_ne h, upd_ne h]; exact e
    clear hHA
    have bHA : ∀ b o, H b = some o → b ≠ p → HA b = some o := fun b o e h => bA _ _ (s69 _ _ (b6 b o e h)) h
    have hO : EndO K HA p W B E M P dx od xs wt := ⟨pA, bHA _ _ hW nWp, nd, nBE, nBM, nBP, nEM, nEP, nMP⟩
    have hS : EndS HA B E M P xs (mx wt xs) (fun _ => 0) (fun _ => none) fun _ => none :=
      ⟨dB.same fun o e => bA _ _ (s69 _ _ e) npB, dE.same fun o e => bA _ _ (s69 _ _ e) npE, DI.nil _ (bA _ _ (sT3 _ _ (sP _ _ m7)) pM), DI.nil _ (bA _ _ (sT3 _ _ q8) pP)⟩
    have hD : Du xs wt (mx wt xs) (fun _ => 0) (fun _ => none) fun _ => none :=
      ⟨fun x _ => (mx_le (wt := wt) (b := x.1) xs 0).1, fun _ _ => Int.le_refl _, fun x hx => by have := (mx_le (wt := wt) (b := x.1) xs 0).2 x hx rfl; show wt x ≤ mx wt xs x.1 + 0; rw [Int.add_zero]; exact this, fun _ _ h => (by cases h), fun _ _ h => (by cases h), fun _ _ h => (by cases h), fun _ _ h => absurd h (Int.lt_irrefl 0)⟩
    have hdn : Don (mx wt xs) (fun _ => none) fun _ => False := ⟨fun _ h => h.elim, fun _ h => Bool.noConfusion h⟩
    -- settling
    obtain ⟨kvs, ks, g1, g2, g3, g4, g5⟩ := hS.db.keys
    refine ⟨_, rfl, p, _, dx, _, _, rfl, pA, c.c_Ends, c.n_its_begins, rfl, B, kvs, ks, rfl, .inl g1, g2, fun ns R pm hR => ?_⟩
    have sR := same_upd (o := .lst (ns.map V.int)) hR
    have eR : (upd HA R (.lst (ns.map V.int))) R = some (.lst (ns.map V.int)) := upd_same
    have hO2 := hO.same sR
    have hS2 := hS.same sR
    generalize upd HA R (.lst (ns.map V.int)) = HB at sR eR hO2 hS2 ⊢
    have dds : ∀ x ∈ [B, E, M, P], ∃ kvs, HB x = some (.dK kvs) := fun x hx => by
      simp only [List.mem_cons, List.not_mem_nil, or_false] at hx
      rcases hx with h | h | h | h <;> rw [h]
      · exact hS2.db.isD
      · exact hS2.de.isD
      · exact hS2.dm.isD
      · exact hS2.dp.isD
    have nn : ns.Nodup := pm.nodup_iff.mpr g3
    have mns : ∀ b, b ∈ ns ↔ b ∈ bgs xs := fun b => by rw [pm.mem_iff, g4 b]; exact numV_some
    refine ⟨R, rfl, ⟨_, .inl (.inl eR)⟩, ?_⟩
    refine for_list (D := { nx := fun _ H' => Q .non H', rt := Q }) (xs := ns.map V.int) (fun t σ H' => ∃ x2 x3 x4 u v mu pi, σ = [some (.ref p), some (.ref W), x2, x3, x4] ∧ ButL [B, E, M, P] HB H' ∧ EndS H' B E M P xs u v mu pi ∧ Du xs wt u v mu pi ∧ Don u mu fun b => b ∈ ns.take t) ?_ ?_ ?_ ?_
    · refine ⟨_, _, _, _, _, _, _, rfl, ButL.refl _ _, hS2, hD, fun b hb => absurd hb List.not_mem_nil, fun b hb => Bool.noConfusion hb⟩
    · rintro t σ H' _ ⟨_, _, _, _, _, _, _, _, bt, _⟩
      exact .inl (.inl (bt.keep dds eR fun k z => by cases z))
    · rintro t x σ H' hx ⟨x2, x3, x4, u, v, mu, pi, rfl, bt, hS', hD', hdn'⟩
      obtain ⟨j, hj, rfl⟩ : ∃ j, ns[t]? = some j ∧ V.int j = x := by rw [List.getElem?_map] at hx; exact Option.map_eq_some_iff.mp hx
      have tk1 : ns.take (t + 1) = ns.take t ++ [j] := by rw [List.take_add_one, hj]; rfl
      have jn : j ∉ ns.take t := fun h => by
        have h2 : (ns.take (t + 1)).Nodup := nn.sublist (List.take_sublist _ _)
        rw [tk1] at h2
        exact (List.nodup_append.mp h2).2.2 _ h _ (by simp) rfl
      have hO3 := hO2.but bt dds
      obtain ⟨x, hx1, hx2⟩ := List.mem_map.mp ((mns j).mp (List.mem_of_getElem? hj))
      refine ⟨_, rfl, p, dx, _, rfl, hO3.at_, rfl, _, rfl, p, W, B, E, M, P, dx, od, xs, wt, u, v, mu, pi, j, _, rfl, hO3, hS', hD', hdn', ⟨x, hx1, hx2⟩, ?_, hlen, fun H2 u2 v2 mu2 pi2 hS3 hD3 hdn3 bt3 => ?_⟩
      · cases e : mu j with
        | none => rfl
        | some y => exact absurd (hdn'.no j (by rw [e]; rfl)) jn
      · refine ⟨_, _, _, u2, v2, mu2, pi2, rfl, bt.trans bt3, hS3, hD3, ⟨fun b hb => hdn3.yes b ?_, fun b hb => ?_⟩⟩
        · rw [tk1] at hb
          exact (List.mem_append.mp hb).imp id fun h => by simpa using h
        · show b ∈ ns.take (t + 1)
          rw [tk1]
          exact List.mem_append.mpr ((hdn3.no b hb).imp id fun h => by simp [h])
    · rintro σ H' ⟨x2, x3, x4, u, v, mu, pi, rfl, bt, hS', hD', hdn'⟩
      rw [List.length_map, List.take_length] at hdn'
      refine Qk H' B E M P u v mu pi (hO2.but bt dds) hS' hD' (fun x hx hux => hdn'.yes _ ((mns _).mpr (List.mem_map.mpr ⟨x, hx, rfl⟩)) hux) fun b o e h => ?_
      exact bt _ _ (sR _ _ (bHA b o e h)) (by simp [(hBH b o e h).1, (hBH b o e h).2, hMH b o e h, hPH b o e h])
end
end Bw
end
section
set_option Elab.async false
set_option linter.all false
set_option maxRecDepth 100000
set_option maxHeartbeats 4000000
namespace Bw
open PySem PySem.Spec PyProof.Rows L2
section
variable {w : World} {K : PySem.W.Frag} {mg : Str → Option Value} {base : Heap}
theorem mkEnds {H : Hp} {W x dx : Addr} {od : Obj} {xs : List Bow} {wt : Bow → Int} {Q : VK} {E : XK} (hx : H x = none) (hdx : H dx = none) (hW : H W = some (.frz od (.dT (xs.map fun x => (bk x, V.int (wt x)))))) (nd : xs.Nodup) (hl : xs.length ≤ 1000)
    (q : ∀ H' B E M P u v mu pi, EndO K H' x W B E M P dx od xs wt → EndS H' B E M P xs u v mu pi → Du xs wt u v mu pi → (∀ x ∈ xs, 0 < u x.1 → (mu x.1).isSome = true) → Same H H' → Q .non H') :
    spEndInit K (.ref x :: ([.ref W] ++ [])) (upd (upd H dx (.own x)) x (.ins (He.ga K "Ends") dx [])) Q E := by
  have s0 : Same H (upd (upd H dx (.own x)) x (.ins (He.ga K "Ends") dx [])) := fun b o e => by
    rw [upd_ne (ne_of_none e hx), upd_ne (ne_of_none e hdx)]
    exact e
  exact ⟨x, W, dx, od, xs, wt, rfl, upd_same, s0 _ _ hW, nd, hl, fun H' B E M P u v mu pi hO hS hD hf k => q H' B E M P u v mu pi hO hS hD hf (Same.made hx hdx k)⟩
theorem cut_one (l : List V) : cutV l none (some 1) = l.take 1 := by
  unfold cutV
  rw [HT.sIx_none, show (1 : Int) = ((1 : Nat) : Int) from rfl, HT.sIx_nat, List.drop_zero, Nat.sub_zero]
  by_cases h : 1 ≤ l.length
  · rw [Nat.min_eq_left h]
  · have : l = [] := List.length_eq_zero_iff.mp (by omega)
    rw [this]; rfl
theorem picks_le (bs : List Bow) (sm : Bool) (x : Bow) : (picks bs sm x).length ≤ bs.length := by
  have h : (idx bs x).length ≤ bs.length := by
    unfold idx
    exact Nat.le_trans (List.length_filter_le _ _) (by rw [List.length_range]; exact Nat.le_refl _)
  unfold picks
  split
  · rw [List.length_take]; omega
  · exact h
theorem found_le (bs : List Bow) (sm : Bool) : ∀ M : List Bow, (found bs sm M).length ≤ M.length * bs.length
  | [] => Nat.zero_le _
  | x :: M => by
    unfold found
    rw [List.flatMap_cons, List.length_append, List.length_cons, Nat.succ_mul]
    have h1 := picks_le bs sm x
    have h2 := found_le bs sm M
    unfold found at h2
    omega
theorem found_snoc (bs : List Bow) (sm : Bool) (M : List Bow) (x : Bow) : found bs sm (M ++ [x]) = found bs sm M ++ picks bs sm x := by
  unfold found
  rw [List.flatMap_append]
  simp
def spUnlike (K : PySem.W.Frag) : Sp := fun vs H Q _ => ∃ (p : Addr) (bs : Bs) (sm : Bool), vs = [.ref p, .bl sm] ∧ RowAt K H p bs ∧ Trk H bs ∧ bs.length ≤ 1000 ∧
  ∀ t H' ys, H' t = some (.lst ys) → (∀ G : Nat → Nat → Bool, (∀ i j, i < bs.length → j < bs.length → i ≠ j → (G i j = true ↔ OkE sm (bat bs.bows i) (bat bs.bows j))) → IsMost G bs.length 1 ys.length) → Same H H' → Q (.ref t) H'
theorem sc_unlike_ends : FnScope ["row", "same", "known", "found", "one"] ["row", "same"] (defScope s_unlike_ends) := ⟨rfl, rfl, rfl, by decide +kernel, rfl, by decide +kernel, by decide +kernel⟩
theorem ok_unlike_ends (c : Cy w K mg base) : Dk PG w K mg base "unlike_ends" 1 6 ["row", "same"] (spUnlike K) := by
  obtain ⟨fd, F⟩ := c.fd_unlike_ends
  have D_copies_of := ok_copies_of c
  have D_weights_of := ok_weights_of c
  have D_Ends___init__ := ok_Ends_init c
  have D_Ends_chosen := ok_Ends_chosen c
  refine ⟨walkK F (by intro h; cases h) sc_unlike_ends (fun vs H Q E h => ?_) (fun cdv A outer s H vs Q E hr h => ?_) fun _ _ _ _ _ _ us ws hl hw => match us, hl, ws, hw with | [_], _, [_], _ => rfl, c.m_unlike_ends, F.kp⟩
  · obtain ⟨a, b, _, rfl, _⟩ := h
    rfl
  · obtain ⟨p, bs, sm, rfl, hR, hT, hlen, Qk⟩ := h
    have hu := hu_of hr
    have big : (1000 : Nat) * 1000 + 1000 ≤ sizeLine := by decide
    have lbw : bs.bows.length = bs.length := List.length_map ..
    refine ⟨_, (pss_cons (ps_par (i := 2) (j := 3) (by rfl) sc_unlike_ends.nd rfl rfl (by decide) rfl rfl (pa_cons (D_copies_of.call (hr.mono (by decide)) rfl (pa_cons (pv 0) pa_nil)) (pa_cons (pe_lst pa_nil) pa_nil)) (by rfl))
      (pss_cons (ps_for PassesOwn.never rfl (pi_list_k (K0 := K) (by rfl) (Dm.call0 (K0 := K) (by rfl) D_Ends_chosen (hr.mono (by decide)) (Di.make (K0 := K) (by rfl) D_Ends___init__ (hr.mono (by decide)) rfl (pa_cons (D_weights_of.call (hr.mono (by decide)) rfl (pa_cons (pv 0) (pa_cons (pv 1) pa_nil))) pa_nil)))) (pg_name (i := 4) sc_unlike_ends.nd rfl (by first | exact Or.inl rfl | exact Or.inr rfl)) (pss_one (ps_expr (pe_bm_k (K0 := K) (by rfl) PySem.F.plainAttrs_list PySem.F.slot_list_extend PySem.F.type_list_extend mt_extend (pv 3) (pa_cons (pe_ifExp (pt_val (pv 1)) (pe_slice (sl_list_k (K0 := K) (by rfl)) (pe_dget hu (pv 2) (pv 4) (fun _ _ => rfl)) po_none (po_some pe_int)) (pe_dget hu (pv 2) (pv 4) (fun _ _ => rfl))) pa_nil)))))
      (pss_one (ps_ret (pe_callB (cr_sortedI_k (K0 := K) (by rfl)) (by rfl) c.f_sorted (by decide +kernel) (pa_cons (pv 3) pa_nil)))))), ?_⟩
    refine ⟨_, rfl, p, bs, rfl, hR, hT, hlen, fun D H1 od cs cd s1 => ?_⟩
    refine ⟨Nat.zero_le _, fun L hL => ⟨_, _, rfl, ?_⟩⟩
    have sL := same_upd (o := .lst []) hL
    have eL : (upd H1 L (.lst [])) L = some (.lst (nv (found bs.bows sm []))) := upd_same
    have cd2 := cd.same sL
    have s2 := s1.trans sL
    generalize upd H1 L (.lst []) = H2 at sL eL cd2 s2 ⊢
    refine ⟨_, rfl, _, rfl, p, bs, sm, rfl, hR.same s2, hT.same s2, hlen, fun Wd H3 od2 xs wd lx s3 => ?_⟩
    refine fun x dx h1 h2 h3 => mkEnds h1 h2 wd.at_ wd.nd lx fun H4 B E M P u v mu pi hO hS hD hf s4 => ⟨rfl, ?_⟩
    refine ⟨x, dx, _, rfl, hO.at_, rfl, x, Wd, B, E, M, P, dx, od2, xs, _, mu, rfl, hO, hS.dm, fun H5 l ps mM nM nl hl ht s5 => ?_⟩
    have s35 := (s3.trans s4).trans s5
    have cd5 := cd2.same s35
    have lcs := cd.nd
    have lM : ps.length ≤ 1000 := by
      have h0 : ∀ y ∈ ps.map (·.2), y ∈ xs := fun y hy => (hD.edge y.1 y.2 ((mM y.1 y.2).mp hy)).1
      have := nodup_len _ _ nM h0
      rw [List.length_map] at this
      omega
    refine ⟨l, rfl, ⟨_, .inl (.inl hl)⟩, ?_⟩
    have s24 := s3.trans s4
    have L4 := s24 _ _ eL
    have nLl : l ≠ L := (ne_of_none L4 nl).symm
    have L5 := s5 _ _ L4
    have DL : D ≠ L := ne_of_none cd.at_ hL
    have lsL : ∀ c ∈ cs, c.2 ≠ L := fun c hc => ne_of_none (cd.ls c hc) hL
    refine for_list (xs := ps.map fun z => V.ref z.1) (fun t σ H' => ∃ x4, σ = [some (.ref p), some (.bl sm), some (.ref D), some (.ref L), x4] ∧ But L H5 H' ∧ H' L = some (.lst (nv (found bs.bows sm ((ps.take t).map (·.2)))))) ?_ ?_ ?_ ?_
    · exact ⟨_, rfl, But.refl _ _, L5⟩
    · rintro t σ H' _ ⟨_, _, bt, _⟩
      exact .inl (.inl (bt _ _ hl nLl))
    · rintro t y σ H' hy ⟨x4, rfl, bt, e⟩
      obtain ⟨z, hz, rfl⟩ : ∃ z, ps[t]? = some z ∧ V.ref z.1 = y := by rw [List.getElem?_map] at hy; exact Option.map_eq_some_iff.mp hy
      have zm := List.mem_of_getElem? hz
      have tlt := (List.getElem?_eq_some_iff.mp hz).1
      have ztup := ht z zm
      have zL : z.1 ≠ L := ne_of ztup L5 (by intro q; cases q)
      have zx : z.2 ∈ xs := (hD.edge z.2.1 z.2.2 ((mM z.2.1 z.2.2).mp (List.mem_map.mpr ⟨z, zm, rfl⟩))).1
      obtain ⟨cc, hcc, ec⟩ := List.mem_map.mp ((cd.mem z.2).mpr ((wd.mem z.2).mpr zx))
      have hg : DGet H' D (.ref z.1) (some (.ref cc.2)) := by
        rw [← val_some (f := V.ref) cd.nd hcc]
        refine .inr ⟨_, bk cc.1, z.1, .inr ⟨od, bt _ _ cd5.at_ DL⟩, rfl, ?_, rfl⟩
        rw [ec]; exact bt _ _ ztup zL
      have hcl := bt _ _ (cd5.ls cc hcc) (lsL cc hcc)
      rw [ec] at hcl
      have tk1 : (ps.take (t + 1)).map (·.2) = (ps.take t).map (·.2) ++ [z.2] := by rw [List.take_add_one, hz, List.map_append]; rfl
      have lf := found_le bs.bows sm ((ps.take t).map (·.2))
      have lt1 : ((ps.take t).map (·.2)).length ≤ 1000 := by rw [List.length_map, List.length_take]; omega
      have lf2 : (found bs.bows sm ((ps.take t).map (·.2))).length ≤ 1000 * 1000 := Nat.le_trans lf (Nat.mul_le_mul lt1 (by omega))
      refine ⟨_, rfl, .inl ⟨rfl, _, .inl (.inl e)⟩, _, rfl, sm, rfl, ?_⟩
      have fin : ∀ (U : Addr) (H6 : Hp), Same H' H6 → H6 U = some (.lst (nv (picks bs.bows sm z.2))) → (rExtend (.ref L) [.ref U] H6 fun _ H7 => ∃ x4, ([some (.ref p), some (.bl sm), some (.ref D), some (.ref L), some (.ref z.1)] : L2.St) = [some (.ref p), some (.bl sm), some (.ref D), some (.ref L), x4] ∧ But L H5 H7 ∧ H7 L = some (.lst (nv (found bs.bows sm ((ps.take (t + 1)).map (·.2)))))) := fun U H6 s6 hU => by
        have lp := picks_le bs.bows sm z.2
        refine ⟨L, U, _, _, rfl, rfl, s6 _ _ e, hU, by rw [List.length_map, List.length_map]; omega, _, rfl, (bt.trans (But.of_same s6)).trans (But.upd _ _ _), ?_⟩
        rw [upd_same, tk1, found_snoc]
        unfold nv
        rw [List.map_append]
      refine iteB (fun hs => ?_) (fun hs => ?_)
      · refine ⟨_, rfl, _, rfl, D, _, rfl, hg, _, rfl, cc.2, _, rfl, .inl (.inl hcl), fun U hU => ?_⟩
        refine fin U _ (same_upd hU) ?_
        rw [upd_same, cut_one]
        unfold picks
        rw [if_pos hs, ← List.map_take]
      · refine ⟨_, rfl, _, rfl, D, _, rfl, hg, ?_⟩
        refine fin cc.2 _ (Same.refl _) ?_
        unfold picks
        rw [if_neg (by rw [hs]; intro z; cases z)]
        exact hcl
    · rintro σ H' ⟨x4, rfl, bt, e⟩
      rw [List.length_map, List.take_length] at e
      refine ⟨_, rfl, L, (found bs.bows sm (ps.map (·.2))).map fun n : Nat => (n : Int), rfl, .inl (.inl (by rw [e]; unfold nv; rw [List.map_map]; rfl)), fun ns' q pm _ hq => ?_⟩
      refine Qk q _ (ns'.map V.int) upd_same (fun G hG => ?_) fun b o hb => ?_
      · rw [List.length_map, pm.length_eq, List.length_map]
        have := ends_most (G := G) (sm := sm) wd.nd wd.mem hD hf mM nM (fun i j hi hj ne => hG i j (by omega) (by omega) ne)
        rw [lbw] at this
        exact this
      · have h5 := s35 _ _ (sL _ _ (s1 _ _ hb))
        have nb : b ≠ L := ne_of_none (s1 _ _ hb) hL
        have h6 := bt _ _ h5 nb
        rw [upd_ne (ne_of_none h6 hq)]
        exact h6
end
end Bw
end
section
set_option Elab.async false
set_option linter.all false
set_option maxRecDepth 100000
set_option maxHeartbeats 4000000
namespace Bw
open PySem PySem.Spec PyProof.Rows L2
/-- a set comprehension over a walk -/
theorem sc_it {w0 : World} {J : It} {n : Nat} {G : Hp → Prop} {Y : Nat → Hp → V → Hp → Prop} (w : Walk J n G Y) {g : TG} {tt : TT} {te : TE} {vs : List Nat} {σ : L2.St} {H1 : Hp} {D : Addr} {Qd : Hp → Prop} (Pv : Nat → Hp → Prop) (h0 : Pv 0 (upd H1 D (SetO w0 D (fun _ => false) 0))) (hG : ∀ i H, i ≤ n → Pv i H → G H)
    (hs : ∀ i x H H', i < n → Pv i H → Y i H x H' → g x (wipe σ vs) H' fun σ2 H2 => wipe σ2 vs = wipe σ vs ∧ tt σ2 H2 fun b H3 =>
      if b = true then te σ2 H3 fun y H4 => ∃ (c : Int) (S : Int → Bool) (n : Nat), y = .int c ∧ H4 D = some (SetO w0 D S n) ∧ n + 1 < scanBound ∧ Pv (i + 1) (upd H4 D (SetO w0 D (fun j => S j || decide (j = c)) (if S c = true then n else n + 1))) else Pv (i + 1) H3) (hd : ∀ H, Pv n H → Qd H) :
    ∃ W : Nat → Nat → Hp → Prop, (∃ m, W 0 m (upd H1 D (SetO w0 D (fun _ => false) 0))) ∧ ∀ i m H, W i m H →
      (J.stop i H ∧ Qd H) ∨ (J.go i H ∧ ∃ Nx : Hp → Prop, (∀ H', Nx H' → ∃ m', m' < m ∧ W (i + 1) m' H') ∧ ∀ x H', J.yld i H x H' → g x (wipe σ vs) H' fun σ2 H2 => wipe σ2 vs = wipe σ vs ∧ tt σ2 H2 fun b H3 =>
        if b = true then te σ2 H3 fun y H4 => ∃ (c : Int) (S : Int → Bool) (n : Nat), y = .int c ∧ H4 D = some (SetO w0 D S n) ∧ n + 1 < scanBound ∧ Nx (upd H4 D (SetO w0 D (fun j => S j || decide (j = c)) (if S c = true then n else n + 1))) else Nx H3) := by
  refine ⟨fun i m H => m = n - i ∧ i ≤ n ∧ Pv i H, ⟨n, by simp, Nat.zero_le _, h0⟩, ?_⟩
  rintro i m H ⟨rfl, hi, p⟩
  have q := hG i H hi p
  by_cases hlt : i < n
  · exact .inr ⟨w.goes i H hlt q, Pv (i + 1), fun H' p' => ⟨n - (i + 1), by omega, rfl, hlt, p'⟩, fun x H' y => hs i x H H' hlt p (w.yields i H x H' hlt q y)⟩
  · have e : i = n := by omega
    subst e
    exact .inl ⟨w.stops H q, hd H p⟩
def sideN (s : Bool) : Str := if s = true then "end" else "begin"
/-- a side, a place, and how many -/
abbrev Sd := Bool × Int × Int
abbrev sdV (t : Sd) : List V := [.str (sideN t.1), .int t.2.1, .int t.2.2]
abbrev sdD (t : Sd) : PyData := .tuple [.str (sideN t.1), .int t.2.1, .int t.2.2]
theorem atI_two {x y : Int} (s : Bool) : atI [V.int x, V.int y] (if s = true then 1 else 0) = some (.int (if s = true then y else x)) := by
  cases s
  · exact atI_nat (xs := [V.int x, V.int y]) (j := 0) rfl
  · exact atI_nat (xs := [V.int x, V.int y]) (j := 1) rfl
theorem endSum_nonneg (bs xs : List Bow) (sm s : Bool) (p : Int) : 0 ≤ endSum bs xs sm s p := by
  unfold endSum
  refine sum_nonneg _ fun x _ => ?_
  unfold wOf
  split <;> omega
theorem endSum_none {bs xs : List Bow} {sm s : Bool} {p : Int} (h : ∀ x ∈ xs, atS s x ≠ p) : endSum bs xs sm s p = 0 := by
  unfold endSum
  rw [List.filter_eq_nil_iff.mpr fun x hx => by have := h x hx; simpa using this]
  rfl
section
variable {w : World} {K : PySem.W.Frag} {mg : Str → Option Value} {base : Heap}
def spMostE (K : PySem.W.Frag) : Sp := fun vs H Q _ => ∃ (p : Addr) (bs : Bs) (sm : Bool), vs = [.ref p, .bl sm] ∧ RowAt K H p bs ∧ Trk H bs ∧ bs.length ≤ 9 ∧
  ∀ t H' (s : Bool) (pl : Int) (xs : List Bow), xs.Nodup → (∀ x, x ∈ bs.bows ↔ x ∈ xs) → H' t = some (.tup (sdV (s, pl, endSum bs.bows xs sm s pl))) → (∀ s' p', endSum bs.bows xs sm s' p' ≤ endSum bs.bows xs sm s pl) → Same H H' → Q (.ref t) H'
theorem sc_most_at_an_end : FnScope ["row", "same", "weights", "found", "at", "side", "place", "most", "one", "many"] ["row", "same"] (defScope s_most_at_an_end) := ⟨rfl, rfl, rfl, by decide +kernel, rfl, by decide +kernel, by decide +kernel⟩
theorem ok_most_at_an_end (c : Cy w K mg base) : Dk PG w K mg base "most_at_an_end" 1 6 ["row", "same"] (spMostE K) := by
  obtain ⟨fd, F⟩ := c.fd_most_at_an_end
  have D_weights_of := ok_weights_of c
  refine ⟨walkK F (by intro h; cases h) sc_most_at_an_end (fun vs H Q E h => ?_) (fun cdv A outer s H vs Q E hr h => ?_) fun _ _ _ _ _ _ us ws hl hw => match us, hl, ws, hw with | [_], _, [_], _ => rfl, c.m_most_at_an_end, F.kp⟩
  · obtain ⟨a, b, _, rfl, _⟩ := h
    rfl
  · obtain ⟨p, bs, sm, rfl, hR, hT, hlen, Qk⟩ := h
    have hu := hu_of hr
    have b1000 : (1000 : Nat) < sizeLine := by decide
    have sc9 : (9 : Nat) + 1 < scanBound := by decide
    refine ⟨_, (pss_cons (ps_par (i := 2) (j := 3) (by rfl) sc_most_at_an_end.nd rfl rfl (by decide) rfl rfl (pa_cons (D_weights_of.call (hr.mono (by decide)) rfl (pa_cons (pv 0) (pa_cons (pv 1) pa_nil))) (pa_cons (pe_lst (pa_cons (pe_tup (pa_cons pe_str (pa_cons pe_int (pa_cons pe_int pa_nil)))) pa_nil)) pa_nil)) (by rfl))
      (pss_cons (ps_for PassesOwn.never rfl (pi_enum_k (K0 := K) (by rfl) (by rfl) c.f_enumerate (pa_cons (pe_lst (pa_cons pe_str (pa_cons pe_str pa_nil))) pa_nil)) (pg_tup_k (K0 := K) (n := 2) (by rfl) (by rfl) (pgs_cons (pg_name (i := 4) sc_most_at_an_end.nd rfl (by first | exact Or.inl rfl | exact Or.inr rfl)) (pgs_cons (pg_name (i := 5) sc_most_at_an_end.nd rfl (by first | exact Or.inl rfl | exact Or.inr rfl)) pgs_nil))) (pss_one (ps_for PassesOwn.never rfl (pi_list_k (K0 := K) (by rfl) (pe_callB (cr_sortedSet rfl) (by rfl) c.f_sorted (by decide +kernel) (pa_cons (pe_scI rfl sc_most_at_an_end.nd (pi_keys (pv 2)) (blkOk_by (own := [("one", 8)]) (by show blkC ["row", "same", "weights", "found", "at", "side", "place", "most", "one", "many"] (defScope s_most_at_an_end) _ _ = true; decide +kernel)) (fun _ _ _ _ _ => (pg_name (i := 8) sc_most_at_an_end.nd rfl (by first | exact Or.inl rfl | exact Or.inr rfl))) (fun _ _ _ _ _ => pts_nil) (fun _ _ _ _ _ => (pe_ix (ix_tup_k (K0 := K) (by rfl)) (pv 8) (pv 4) (fun _ _ => rfl)))) pa_nil))) (pg_name (i := 6) sc_most_at_an_end.nd rfl (by first | exact Or.inl rfl | exact Or.inr rfl)) (pss_one (ps_expr (pe_bm_k (K0 := K) (by rfl) PySem.F.plainAttrs_list PySem.F.slot_list_append PySem.F.type_list_append mt_append (pv 3) (pa_cons (pe_tup (pa_cons (pv 5) (pa_cons (pv 6) (pa_cons (pe_callB (cr_sum_k (K0 := K) (by rfl) rfl) (by rfl) c.f_sum (by decide +kernel) (pa_cons (pe_lc rfl sc_most_at_an_end.nd (pi_itemsT (pv 2)) (blkOk_by (own := [("one", 8), ("many", 9)]) (by show blkC ["row", "same", "weights", "found", "at", "side", "place", "most", "one", "many"] (defScope s_most_at_an_end) _ _ = true; decide +kernel)) (fun _ _ _ _ _ => (pg_tup_k (K0 := K) (n := 2) (by rfl) (by rfl) (pgs_cons (pg_name (i := 8) sc_most_at_an_end.nd rfl (by first | exact Or.inl rfl | exact Or.inr rfl)) (pgs_cons (pg_name (i := 9) sc_most_at_an_end.nd rfl (by first | exact Or.inl rfl | exact Or.inr rfl)) pgs_nil)))) (fun _ _ _ _ _ => (pts_one (pt_cmpR op_eq (pe_ix (ix_tup_k (K0 := K) (by rfl)) (pv 8) (pv 4) (fun _ _ => rfl)) (pv 6) (nomark _)))) (fun _ _ _ _ _ => (pv 9))) pa_nil)) pa_nil)))) pa_nil)))))))
      (pss_cons (ps_set (i := 7) sc_most_at_an_end.nd rfl (by first | exact Or.inl rfl | exact Or.inr rfl) (pe_callB (cr_max_k (K0 := K) (by rfl) rfl) (by rfl) c.f_max (by decide +kernel) (pa_cons (pe_lc rfl sc_most_at_an_end.nd (pi_list_k (K0 := K) (by rfl) (pv 3)) (blkOk_by (own := [("one", 8)]) (by show blkC ["row", "same", "weights", "found", "at", "side", "place", "most", "one", "many"] (defScope s_most_at_an_end) _ _ = true; decide +kernel)) (fun _ _ _ _ _ => (pg_name (i := 8) sc_most_at_an_end.nd rfl (by first | exact Or.inl rfl | exact Or.inr rfl))) (fun _ _ _ _ _ => pts_nil) (fun _ _ _ _ _ => (pe_ix (ix_tup_k (K0 := K) (by rfl)) (pv 8) pe_int (fun _ _ => rfl)))) pa_nil)))
      (pss_one (ps_ret (pe_callB (cr_minG_k (K0 := K) (by rfl) rfl (hu64 hr)) (by rfl) c.f_min (by decide +kernel) (pa_cons (pe_lc rfl sc_most_at_an_end.nd (pi_list_k (K0 := K) (by rfl) (pv 3)) (blkOk_by (own := [("one", 8)]) (by show blkC ["row", "same", "weights", "found", "at", "side", "place", "most", "one", "many"] (defScope s_most_at_an_end) _ _ = true; decide +kernel)) (fun _ _ _ _ _ => (pg_name (i := 8) sc_most_at_an_end.nd rfl (by first | exact Or.inl rfl | exact Or.inr rfl))) (fun _ _ _ _ _ => (pts_one (pt_cmpR op_eq (pe_ix (ix_tup_k (K0 := K) (by rfl)) (pv 8) pe_int (fun _ _ => rfl)) (pv 7) (nomark _)))) (fun _ _ _ _ _ => (pv 8))) pa_nil))))))), ?_⟩
    refine ⟨_, rfl, _, rfl, p, bs, sm, rfl, hR, hT, by omega, fun Wd H1 od xs wd _ s1 => ?_⟩
    have lx : xs.length ≤ 9 := by
      have := nodup_len xs bs.bows wd.nd fun x hx => (wd.mem x).mpr hx
      rw [List.length_map] at this
      omega
    refine ⟨by show 3 ≤ sizeLine; decide, fun T0 hT0 => ⟨by show 1 ≤ sizeLine; decide, fun L hL => ⟨_, _, rfl, ?_⟩⟩⟩
    have sT0 := same_upd (o := .tup [V.str "begin", V.int 0, V.int 0]) hT0
    have eT0 : (upd H1 T0 (.tup [V.str "begin", V.int 0, V.int 0])) T0 = some (.tup (sdV (false, 0, 0))) := upd_same
    generalize upd H1 T0 (.tup [V.str "begin", V.int 0, V.int 0]) = H2 at sT0 eT0 hL ⊢
    have sL := same_upd (o := .lst [V.ref T0]) hL
    have eL : (upd H2 L (.lst [V.ref T0])) L = some (.lst [V.ref T0]) := upd_same
    have s12 := sT0.trans sL
    have eT3 := sL _ _ eT0
    generalize upd H2 L (.lst [V.ref T0]) = H3 at sL eL s12 eT3 ⊢
    have nL : H1 L = none := by cases e : H1 L with | none => rfl | some o => rw [sT0 _ _ e] at hL; cases hL
    refine ⟨by show 2 ≤ sizeLine; decide, fun N hN => ?_⟩
    have sN := same_upd (o := .lst [V.str "begin", V.str "end"]) hN
    have eN : (upd H3 N (.lst [V.str "begin", V.str "end"])) N = some (.lst [V.str "begin", V.str "end"]) := upd_same
    have nNL : N ≠ L := (ne_of_none eL hN).symm
    have eL4 := sN _ _ eL
    have eT4 := sN _ _ eT3
    have s14 := s12.trans sN
    generalize upd H3 N (.lst [V.str "begin", V.str "end"]) = H4 at sN eN eL4 eT4 s14 ⊢
    refine ⟨N, _, rfl, .inl (.inl eN), ?_⟩
    -- what was found
    let Fd : Hp → List (Addr × Sd) → Prop := fun H' fs => But L H1 H' ∧ H' N = some (.lst [V.str "begin", V.str "end"]) ∧ H' L = some (.lst (fs.map fun f => V.ref f.1)) ∧ (∀ f ∈ fs, H' f.1 = some (.tup (sdV f.2))) ∧ (∀ f ∈ fs, f.2 = (false, 0, 0) ∨ f.2.2.2 = endSum bs.bows xs sm f.2.1 f.2.2.1) ∧ ∃ f ∈ fs, f.2 = (false, 0, 0)
    refine for_it (walk_enum (K := K) (a := N) (xs := [V.str "begin", V.str "end"])) (fun t σ H' => ∃ x4 x5 x6 x7 x8 x9 fs, σ = [some (.ref p), some (.bl sm), some (.ref Wd), some (.ref L), x4, x5, x6, x7, x8, x9] ∧ Fd H' fs ∧ fs.length ≤ 1 + 9 * t ∧ ∀ s : Bool, (if s = true then 1 else 0) < t → ∀ x ∈ xs, ∃ f ∈ fs, f.2 = (s, atS s x, endSum bs.bows xs sm s (atS s x))) ?_ ?_ ?_ ?_
    · exact ⟨_, _, _, _, _, _, [(T0, (false, 0, 0))], rfl, ⟨But.of_same s14, eN, eL4, fun f hf => by rw [show f = (T0, (false, 0, 0)) by simpa using hf]; exact eT4, fun f hf => .inl (by rw [show f = (T0, (false, 0, 0)) by simpa using hf]), _, List.mem_cons_self .., rfl⟩, Nat.le_refl _, fun _ h => absurd h (Nat.not_lt_zero _)⟩
    · rintro t σ H' _ ⟨_, _, _, _, _, _, _, _, hF, _⟩
      exact .inl (.inl hF.2.1)
    · rintro t x σ H' H5 ht ⟨x4, x5, x6, x7, x8, x9, fs, rfl, hF, lf, hall⟩ ⟨T1, y1, y2, rfl, hT1, rfl, g1, g2⟩
      obtain ⟨s, hs1, hs2⟩ : ∃ s : Bool, t = (if s = true then 1 else 0) ∧ y2 = V.str (sideN s) := by
        have ht2 : t < 2 := ht
        rcases (show t = 0 ∨ t = 1 by omega) with h | h
        · subst h
          exact ⟨false, rfl, by have g3 : ([V.str "begin", V.str "end"])[0]? = some y2 := g2; injection g3 with g3; rw [← g3]; rfl⟩
        · subst h
          exact ⟨true, rfl, by have g3 : ([V.str "begin", V.str "end"])[1]? = some y2 := g2; injection g3 with g3; rw [← g3]; rfl⟩
      subst hs2
      obtain rfl : V.int (t : Nat) = y1 := by injection g1
      have sT1 := same_upd (o := .tup [V.int (t : Nat), V.str (sideN s)]) hT1
      have eT1 : (upd H' T1 (.tup [V.int (t : Nat), V.str (sideN s)])) T1 = some (.tup [V.int (t : Nat), V.str (sideN s)]) := upd_same
      have hF5 : Fd (upd H' T1 (.tup [V.int (t : Nat), V.str (sideN s)])) fs := ⟨hF.1.trans (But.of_same sT1), sT1 _ _ hF.2.1, sT1 _ _ hF.2.2.1, fun f hf => sT1 _ _ (hF.2.2.2.1 f hf), hF.2.2.2.2⟩
      generalize upd H' T1 (.tup [V.int (t : Nat), V.str (sideN s)]) = H5 at sT1 eT1 hF5 ⊢
      clear hF
      refine ⟨T1, _, rfl, .inl (.inl eT1), rfl, _, _, rfl, _, _, rfl, rfl, ?_⟩
      have ti : ((t : Nat) : Int) = if s = true then 1 else 0 := by rw [hs1]; cases s <;> rfl
      have wL : Wd ≠ L := ne_of_none wd.at_ nL
      have wgt : ∀ {H'}, But L H1 H' → H' Wd = some (.frz od (.dT (xs.map fun x => (bk x, V.int (wOf bs.bows sm x))))) := fun b => b _ _ wd.at_ wL
      -- the places
      refine ⟨_, rfl, Wd, od, rfl, .inr ⟨_, wgt hF5.1, fun D hD => ?_⟩⟩
      refine sc_it walk_keysT (fun i H6 => Same H5 H6 ∧ ∃ S n, H6 D = some (SetO w D S n) ∧ n ≤ i ∧ ∀ k, S k = true ↔ k ∈ (xs.take i).map (atS s)) ⟨same_upd hD, _, 0, upd_same, Nat.le_refl _, fun k => ⟨fun h => Bool.noConfusion h, fun h => absurd h List.not_mem_nil⟩⟩ (fun i H6 _ h => h.1 _ _ (wgt hF5.1)) (fun i x H6 H6' hi hP hx => ?_) fun H6 hP => ?_
      · obtain ⟨s6, S, n, hS, hn, mS⟩ := hP
        obtain ⟨rfl, k, v', q, hk, rfl, hq⟩ := hx
        rw [List.getElem?_map] at hk
        obtain ⟨y, hy, ey⟩ := Option.map_eq_some_iff.mp hk
        injection ey with ey _
        subst ey
        have hq : H6' q = some (.tup [.int y.1, .int y.2]) := hq
        have hi' : i < xs.length := by rw [List.length_map] at hi; exact hi
        have tk1 : xs.take (i + 1) = xs.take i ++ [y] := by rw [List.take_add_one, hy]; rfl
        refine ⟨rfl, _, rfl, _, rfl, q, _, _, _, rfl, rfl, .inl (.inl hq), by rw [ti]; exact atI_two s, atS s y, S, n, ?_, hS, by omega, fun b o e => ?_, _, _, upd_same, ?_, fun k => ?_⟩
        · unfold atS; rfl
        · rw [upd_ne (ne_of_none e hD)]; exact s6 _ _ e
        · split <;> omega
        · rw [Bool.or_eq_true, mS k, decide_eq_true_eq, tk1, List.map_append, List.mem_append]
          simp
      obtain ⟨s6, S, n, hS, hn, mS⟩ := hP
      rw [List.length_map] at hn
      rw [List.length_map, List.take_length] at mS
      refine ⟨D, S, n, rfl, hS, by omega, fun ns R pw mns lns hR => ?_⟩
      have mns' : ∀ k, k ∈ ns ↔ ∃ x ∈ xs, atS s x = k := fun k => by rw [mns k, mS k, List.mem_map]
      have sR := same_upd (o := .lst (ns.map V.int)) hR
      have eR : (upd H6 R (.lst (ns.map V.int))) R = some (.lst (ns.map V.int)) := upd_same
      have s57 := s6.trans sR
      have hF7 : Fd (upd H6 R (.lst (ns.map V.int))) fs := ⟨hF5.1.trans (But.of_same s57), s57 _ _ hF5.2.1, s57 _ _ hF5.2.2.1, fun f hf => s57 _ _ (hF5.2.2.2.1 f hf), hF5.2.2.2.2⟩
      have nRL : R ≠ L := fun z => by have := s6 _ _ hF5.2.2.1; rw [← z, hR] at this; cases this
      generalize upd H6 R (.lst (ns.map V.int)) = H7 at eR hF7 ⊢
      refine ⟨R, rfl, ⟨_, .inl (.inl eR)⟩, ?_⟩
      refine for_list (xs := ns.map V.int) (fun t2 σ H' => ∃ x6 x7 x8 x9 fs', σ = [some (.ref p), some (.bl sm), some (.ref Wd), some (.ref L), some (.int (t : Nat)), some (.str (sideN s)), x6, x7, x8, x9] ∧ Fd H' fs' ∧ H' R = some (.lst (ns.map V.int)) ∧ fs'.length = fs.length + t2 ∧ (∀ f ∈ fs, f ∈ fs') ∧ ∀ k ∈ ns.take t2, ∃ f ∈ fs', f.2 = (s, k, endSum bs.bows xs sm s k)) ?_ ?_ ?_ ?_
      · exact ⟨_, _, _, _, fs, rfl, hF7, eR, rfl, fun _ h => h, fun _ h => absurd h List.not_mem_nil⟩
      · rintro t2 σ H' _ ⟨_, _, _, _, _, _, _, e, _⟩
        exact .inl (.inl e)
      · rintro t2 y σ H' hy ⟨x6, x7, x8, x9, fs', rfl, hF', eR', lf', sub, cov⟩
        obtain ⟨k, hk, rfl⟩ : ∃ k, ns[t2]? = some k ∧ V.int k = y := by rw [List.getElem?_map] at hy; exact Option.map_eq_some_iff.mp hy
        have klt := (List.getElem?_eq_some_iff.mp hk).1
        have tk2 : ns.take (t2 + 1) = ns.take t2 ++ [k] := by rw [List.take_add_one, hk]; rfl
        refine ⟨_, rfl, .inl ⟨rfl, _, .inl (.inl hF'.2.2.1)⟩, _, rfl, _, rfl, _, rfl, Wd, od, _, rfl, wgt hF'.1, fun Z hZ => ?_⟩
        refine lc_it walk_itemsT (AccAt H' Z (accF xs (fun x => decide (atS s x = k)) fun x => V.int (wOf bs.bows sm x))) (acc_start hZ rfl) (fun i H8 _ h => h.1 _ _ (wgt hF'.1)) (fun i x H8 H8' hi hP hx => ?_) fun H8 hP => ?_
        · obtain ⟨T2, k', v', q, hkk, rfl, hT2, hq, rfl⟩ := hx
          rw [List.length_map] at hi
          rw [List.getElem?_map] at hkk
          obtain ⟨y, hy, ey⟩ := Option.map_eq_some_iff.mp hkk
          injection ey with e1 e2
          subst e1 e2
          have hq : H8 q = some (.tup [.int y.1, .int y.2]) := hq
          have sT2 := same_upd (o := .tup [.ref q, .int (wOf bs.bows sm y)]) hT2
          have eT2 : (upd H8 T2 (.tup [.ref q, .int (wOf bs.bows sm y)])) T2 = some (.tup [.ref q, .int (wOf bs.bows sm y)]) := upd_same
          have hq2 := sT2 _ _ hq
          have hP2 : AccAt H' Z (accF xs (fun x => decide (atS s x = k)) fun x => V.int (wOf bs.bows sm x)) i (upd H8 T2 (.tup [.ref q, .int (wOf bs.bows sm y)])) := ⟨hP.1.trans sT2, sT2 _ _ hP.2.1, hP.2.2⟩
          generalize upd H8 T2 (.tup [.ref q, .int (wOf bs.bows sm y)]) = H9 at eT2 hq2 hP2 ⊢
          refine lc_step (n := xs.length) hi (by omega) hZ (fun K1 K0 k1 k0 => ?_) hP2
          refine ⟨T2, _, rfl, .inl (.inl eT2), rfl, _, _, rfl, _, _, rfl, rfl, rfl, _, rfl, _, rfl, q, _, _, _, rfl, rfl, .inl (.inl hq2), by rw [ti]; exact atI_two s, _, rfl, rfl, _, rfl, ?_⟩
          refine iteI (fun h => ?_) (fun h => ?_)
          · exact ⟨_, rfl, k1 _ _ (Same.refl _) (accF_yes hy (decide_eq_true h))⟩
          · exact k0 _ (Same.refl _) (accF_no hy (decide_eq_false h))
        obtain ⟨s8, e8, _⟩ := hP
        rw [List.length_map, accF_all rfl] at e8
        refine ⟨Z, (xs.filter fun x => decide (atS s x = k)).map fun x => wOf bs.bows sm x, rfl, .inl (.inl (by rw [e8, List.map_map]; rfl)), by show 3 ≤ sizeLine; decide, fun T3 hT3 => ?_⟩
        have es : ((xs.filter fun x => decide (atS s x = k)).map fun x => wOf bs.bows sm x).sum = endSum bs.bows xs sm s k := rfl
        rw [es]
        have sT3 := same_upd (o := .tup [V.str (sideN s), V.int k, V.int (endSum bs.bows xs sm s k)]) hT3
        have eT3' : (upd H8 T3 (.tup [V.str (sideN s), V.int k, V.int (endSum bs.bows xs sm s k)])) T3 = some (.tup (sdV (s, k, endSum bs.bows xs sm s k))) := upd_same
        have s89 := s8.trans sT3
        have eL9 := s89 _ _ hF'.2.2.1
        have nTL : T3 ≠ L := (ne_of_none (s8 _ _ hF'.2.2.1) hT3).symm
        generalize upd H8 T3 (.tup [V.str (sideN s), V.int k, V.int (endSum bs.bows xs sm s k)]) = H9 at eT3' s89 eL9 ⊢
        refine ⟨L, _, _, rfl, rfl, eL9, ?_, ?_⟩
        · rw [List.length_map, lf']
          have : ns.length ≤ 9 := by omega
          have : t < 2 := ht
          omega
        · refine ⟨_, _, _, _, fs' ++ [(T3, (s, k, endSum bs.bows xs sm s k))], rfl, ⟨(hF'.1.trans (But.of_same s89)).trans (But.upd _ _ _), by rw [upd_ne nNL]; exact s89 _ _ hF'.2.1, by rw [upd_same, List.map_append]; rfl, fun f hf => ?_, fun f hf => ?_, ?_⟩, by rw [upd_ne nRL]; exact s89 _ _ eR', by rw [List.length_append, lf']; rfl, fun f hf => List.mem_append_left _ (sub f hf), fun k2 hk2 => ?_⟩
          · rcases List.mem_append.mp hf with h | h
            · have h9 := s89 _ _ (hF'.2.2.2.1 f h)
              rw [upd_ne (ne_of h9 eL9 (by intro z; cases z))]
              exact h9
            · rw [show f = (T3, (s, k, endSum bs.bows xs sm s k)) by simpa using h, upd_ne nTL]
              exact eT3'
          · rcases List.mem_append.mp hf with h | h
            · exact hF'.2.2.2.2.1 f h
            · rw [show f = (T3, (s, k, endSum bs.bows xs sm s k)) by simpa using h]; exact .inr rfl
          · obtain ⟨f, hf, e⟩ := hF'.2.2.2.2.2
            exact ⟨f, List.mem_append_left _ hf, e⟩
          · rw [tk2] at hk2
            rcases List.mem_append.mp hk2 with h | h
            · obtain ⟨f, hf, e⟩ := cov k2 h
              exact ⟨f, List.mem_append_left _ hf, e⟩
            · have : k2 = k := by simpa using h
              rw [this]
              exact ⟨_, List.mem_append_right _ (List.mem_cons_self ..), rfl⟩
      · rintro σ H' ⟨x6, x7, x8, x9, fs', rfl, hF', eR', lf', sub, cov⟩
        rw [List.length_map] at lf'
        rw [List.length_map, List.take_length] at cov
        refine ⟨_, _, _, _, _, _, fs', rfl, hF', by omega, fun s' hs' x hx => ?_⟩
        by_cases e : s' = s
        · rw [e]
          exact cov _ ((mns' _).mpr ⟨x, hx, rfl⟩)
        · have : (if s' = true then 1 else 0) < t := by
            rw [hs1] at hs' ⊢
            cases s <;> cases s' <;> simp_all
          obtain ⟨f, hf, e2⟩ := hall s' this x hx
          exact ⟨f, sub f hf, e2⟩
    rintro σ H' ⟨x4, x5, x6, x7, x8, x9, fs, rfl, hF, lf, hall⟩
    have hall' : ∀ (s : Bool), ∀ x ∈ xs, ∃ f ∈ fs, f.2 = (s, atS s x, endSum bs.bows xs sm s (atS s x)) := fun s => hall s (by show _ < 2; split <;> omega)
    have lf' : fs.length ≤ 1 + 9 * 2 := lf
    obtain ⟨bt, hN', hL', hf1, hf2, f0, hf0, ef0⟩ := hF
    -- the most
    refine ⟨_, rfl, L, rfl, ⟨_, .inl (.inl hL')⟩, fun Z hZ => ?_⟩
    refine lc_accL (accM fs fun f => V.int f.2.2.2) (.inl (.inl hL')) (by rw [List.length_map]; omega) hZ rfl (fun i x H8 hx s8 _ K1 K0 k1 k0 => ?_) fun H8 s8 e8 => ?_
    · obtain ⟨f, hf, rfl⟩ : ∃ f, fs[i]? = some f ∧ V.ref f.1 = x := by rw [List.getElem?_map] at hx; exact Option.map_eq_some_iff.mp hx
      have h2 : (sdV f.2)[2]? = some (.int f.2.2.2) := rfl
      exact ⟨rfl, _, rfl, f.1, _, 2, _, rfl, rfl, .inl (.inl (s8 _ _ (hf1 f (List.mem_of_getElem? hf)))), atI_nat (j := 2) h2, k1 _ _ (Same.refl _) (accM_succ (f := fun f : Addr × Sd => V.int f.2.2.2) hf)⟩
    rw [accM_all (by rw [List.length_map])] at e8
    refine ⟨Z, fs.map fun f => f.2.2.2, rfl, .inl (.inl (by rw [e8, List.map_map]; rfl)), by rw [List.length_map]; exact List.length_pos_of_mem hf0, fun m hm hmx => ?_⟩
    have hL8 := s8 _ _ hL'
    refine ⟨_, rfl, L, rfl, ⟨_, .inl (.inl hL8)⟩, fun Y hY => ?_⟩
    refine lc_accL (accF fs (fun f => decide (f.2.2.2 = m)) fun f => V.ref f.1) (.inl (.inl hL8)) (by rw [List.length_map]; omega) hY rfl (fun i x H9 hx9 s9 _ K1 K0 k1 k0 => ?_) fun H9 s9 e9 => ?_
    · obtain ⟨f, hf, rfl⟩ : ∃ f, fs[i]? = some f ∧ V.ref f.1 = x := by rw [List.getElem?_map] at hx9; exact Option.map_eq_some_iff.mp hx9
      have h2 : (sdV f.2)[2]? = some (.int f.2.2.2) := rfl
      refine ⟨rfl, _, rfl, f.1, _, 2, _, rfl, rfl, .inl (.inl (s9 _ _ (s8 _ _ (hf1 f (List.mem_of_getElem? hf))))), atI_nat (j := 2) h2, _, rfl, rfl, _, rfl, ?_⟩
      refine iteI (fun h => ?_) (fun h => ?_)
      · exact ⟨_, rfl, k1 _ _ (Same.refl _) (accF_yes hf (decide_eq_true h))⟩
      · exact k0 _ (Same.refl _) (accF_no hf (decide_eq_false h))
    rw [accF_all (by rw [List.length_map])] at e9
    obtain ⟨g0, hg0, eg0⟩ := List.mem_map.mp hm
    generalize hgs : (fs.filter fun f => decide (f.2.2.2 = m)) = gs at e9
    have mg : ∀ f, f ∈ gs ↔ f ∈ fs ∧ f.2.2.2 = m := fun f => by rw [← hgs, List.mem_filter, decide_eq_true_eq]
    obtain ⟨q0, ql, rfl⟩ : ∃ q0 ql, gs = q0 :: ql := by
      have : g0 ∈ gs := (mg g0).mpr ⟨hg0, eg0⟩
      match gs, this with
      | q0 :: ql, _ => exact ⟨q0, ql, rfl⟩
    have s19 := (bt.trans (But.of_same s8)).trans (But.of_same s9)
    refine ⟨Y, (V.ref q0.1, sdD q0.2), ql.map fun f => (V.ref f.1, sdD f.2), rfl, .inl (.inl ?_), fun x hx => ?_, ⟨fun x hx y hy => ?_, fun x hx => ?_⟩, ?_, fun x hx _ => ?_⟩
    · rw [e9, ← List.map_cons (f := fun f : Addr × Sd => (V.ref f.1, sdD f.2)), List.map_map]; rfl
    · rw [← List.map_cons (f := fun f : Addr × Sd => (V.ref f.1, sdD f.2))] at hx
      obtain ⟨f, hf, rfl⟩ := List.mem_map.mp hx
      exact .tup (.inl (.inl (s9 _ _ (s8 _ _ (hf1 f ((mg f).mp hf).1))))) (.cons (.str _) (.cons (.int _) (.cons (.int _) .nil)))
    · rw [← List.map_cons (f := fun f : Addr × Sd => (V.ref f.1, sdD f.2)), List.map_map] at hx hy
      obtain ⟨f, _, rfl⟩ := List.mem_map.mp hx
      obtain ⟨f', _, rfl⟩ := List.mem_map.mp hy
      rfl
    · rw [← List.map_cons (f := fun f : Addr × Sd => (V.ref f.1, sdD f.2)), List.map_map] at hx
      obtain ⟨f, _, rfl⟩ := List.mem_map.mp hx
      intro z
      cases z
    · rw [← List.map_cons (f := fun f : Addr × Sd => (V.ref f.1, sdD f.2)), List.map_map]
      have dep : ∀ l : List (Addr × Sd), PyData.depthAll (l.map ((fun x : V × PyData => x.2) ∘ fun f : Addr × Sd => (V.ref f.1, sdD f.2))) ≤ 2 := fun l => by
        induction l with
        | nil => exact Nat.zero_le _
        | cons f l ih =>
          rw [List.map_cons]
          show PyData.depthAll (sdD f.2 :: _) ≤ 2
          rw [PyData.depthAll]
          refine Nat.max_le.mpr ⟨?_, ih⟩
          show PyData.depth (PyData.tuple [.str _, .int _, .int _]) ≤ 2
          simp [PyData.depth, PyData.depthAll]
      exact Nat.le_trans (dep _) (by decide)
    · rw [← List.map_cons (f := fun f : Addr × Sd => (V.ref f.1, sdD f.2))] at hx
      obtain ⟨f, hf, rfl⟩ := List.mem_map.mp hx
      obtain ⟨f1, f2⟩ := (mg f).mp hf
      have m0 : 0 ≤ m := by
        have := hmx _ (List.mem_map.mpr ⟨f0, hf0, rfl⟩)
        rw [ef0] at this
        exact this
      have hmax : ∀ s' p', endSum bs.bows xs sm s' p' ≤ m := fun s' p' => by
        by_cases e : ∃ x ∈ xs, atS s' x = p'
        · obtain ⟨x, hx, rfl⟩ := e
          obtain ⟨f', hf', e2⟩ := hall' s' x hx
          have := hmx _ (List.mem_map.mpr ⟨f', hf', rfl⟩)
          rw [e2] at this
          exact this
        · rw [endSum_none fun x hx h => e ⟨x, hx, h⟩]
          exact m0
      have em : m = endSum bs.bows xs sm f.2.1 f.2.2.1 := by
        rcases hf2 f f1 with h | h
        · have h0 : m = 0 := by rw [← f2, h]
          have h3 := hmax f.2.1 f.2.2.1
          have h4 := endSum_nonneg bs.bows xs sm f.2.1 f.2.2.1
          omega
        · rw [← f2]; exact h
      have e9' := s9 _ _ (s8 _ _ (hf1 f f1))
      refine Qk f.1 _ f.2.1 f.2.2.1 xs wd.nd (fun x => wd.mem x) ?_ (fun s' p' => by rw [← em]; exact hmax s' p') fun q o e => ?_
      · rw [e9', ← em, ← f2]
      · have e1 := s1 _ _ e
        exact s19 _ _ e1 (ne_of_none e1 nL)
end
end Bw
end
section
set_option Elab.async false
set_option linter.all false
set_option maxRecDepth 100000
set_option maxHeartbeats 4000000
namespace Bw
open PySem PySem.Spec PyProof.Rows L2

theorem eqv_pr (x y : Bow) : PyData.eqv (pr x) (pr y) = decide (x = y) := by
  rw [Bool.eq_iff_iff, decide_eq_true_eq]
  simp [PyData.eqv, PyData.eqvAll, Prod.ext_iff]
theorem shaped_pr (x : Bow) : SeqAt.shaped (pr x) = true := by
  simp [SeqAt.shaped, PyData.canLay0, PyData.canLayAll0, PyData.depth, PyData.depthAll]
theorem canLay_prs : ∀ l : List Bow, PyData.canLayAll0 (l.map pr) = true
  | [] => rfl
  | x :: l => by
    rw [List.map_cons, PyData.canLayAll0, canLay_prs l]
    simp [PyData.canLay0, PyData.canLayAll0]
theorem depth_prs : ∀ l : List Bow, PyData.depthAll (l.map pr) ≤ 2
  | [] => by decide
  | x :: l => by
    rw [List.map_cons, PyData.depthAll]
    exact Nat.max_le.mpr ⟨by simp [PyData.depth, PyData.depthAll], depth_prs l⟩
theorem shaped_prs (l : List Bow) : SeqAt.shaped (.list (l.map pr)) = true := by
  unfold SeqAt.shaped
  rw [PyData.canLay0, canLay_prs, PyData.depth, decide_eq_true (by have := depth_prs l; omega)]
  rfl
theorem any_prs (l : List Bow) (x : Bow) : ((l.map pr).any fun z => PyData.eqv z (pr x)) = l.contains x := by
  rw [Bool.eq_iff_iff, List.any_map, List.any_eq_true, List.contains_iff_mem]
  refine ⟨fun ⟨y, hy, e⟩ => ?_, fun h => ⟨x, h, ?_⟩⟩
  · have e : PyData.eqv (pr y) (pr x) = true := e
    rw [eqv_pr, decide_eq_true_eq] at e
    rw [← e]; exact hy
  · show PyData.eqv (pr x) (pr x) = true
    rw [eqv_pr]; exact decide_eq_true rfl
theorem bat_at {bs : Bs} {i : Nat} {b : Addr × Bow} (h : bs[i]? = some b) : bat bs.bows i = b.2 := by
  unfold bat Bs.bows
  rw [List.getD_eq_getElem?_getD, List.getElem?_map, h]
  rfl
theorem dp_prs {K : PySem.W.Frag} {H : Hp} : ∀ (bs : Bs), Trk H bs → DpAll K H bs.vs (bs.bows.map pr)
  | [], _ => .nil
  | b :: bs, h => .cons (.tup (.inl (.inl (h b (List.mem_cons_self ..)))) (.cons (.int _) (.cons (.int _) .nil))) (dp_prs bs fun x hx => h x (List.mem_cons_of_mem _ hx))
theorem endSum_pos {bs xs : List Bow} {sm s : Bool} {x : Bow} (hb : x ∈ bs) (hx : x ∈ xs) : 0 < endSum bs xs sm s (atS s x) := by
  have h := sum_le (f := wOf bs sm) [x] (xs.filter fun y => decide (atS s y = atS s x)) (by simp) (fun a ha _ => by
    rw [List.mem_singleton.mp ha]
    exact List.mem_filter.mpr ⟨hx, decide_eq_true rfl⟩) fun a _ => by unfold wOf; split <;> omega
  have h1 : 0 < wOf bs sm x := by
    unfold wOf
    have := List.count_pos_iff.mpr hb
    split <;> omega
  unfold endSum
  simp only [List.map_cons, List.map_nil, List.sum_cons, List.sum_nil] at h
  omega
theorem take_bows {bs : Bs} {i : Nat} (h : i ≤ bs.length) : Bs.bows (List.take i bs) = (List.range i).map (bat bs.bows) := by
  show List.map _ (List.take i bs) = _
  rw [List.map_take]
  apply List.ext_getElem
  · rw [List.length_take, List.length_map, List.length_map, List.length_range]
    omega
  · intro j h1 h2
    rw [List.getElem_take, List.getElem_map, List.getElem_map, List.getElem_range]
    have hj : j < bs.length := by rw [List.length_map, List.length_range] at h2; omega
    exact (bat_at (List.getElem?_eq_getElem hj)).symm
section
variable {w : World} {K : PySem.W.Frag} {mg : Str → Option Value} {base : Heap}
def spOneEnd (K : PySem.W.Frag) : Sp := fun vs H Q _ => ∃ (p : Addr) (bs : Bs) (sm : Bool), vs = [.ref p, .bl sm] ∧ RowAt K H p bs ∧ Trk H bs ∧ bs.length ≤ 9 ∧
  ∀ t H' ys, H' t = some (.lst ys) → (∀ G : Nat → Nat → Bool, (∀ i j, i < bs.length → j < bs.length → i ≠ j → (G i j = true ↔ OkC sm (bat bs.bows i) (bat bs.bows j))) → IsMost G bs.length 1 ys.length) → Same H H' → Q (.ref t) H'
theorem sc_at_one_end : FnScope ["row", "same", "side", "place", "many", "some", "index", "at"] ["row", "same"] (defScope s_at_one_end) := ⟨rfl, rfl, rfl, by decide +kernel, rfl, by decide +kernel, by decide +kernel⟩
theorem ok_at_one_end (c : Cy w K mg base) : Dn PG w K mg base "at_one_end" 8 ["row", "same"] (spOneEnd K) := by
  obtain ⟨fd, F⟩ := c.fd_at_one_end
  have D_Row___len__ := ok_Row_len c
  have D_Row___getitem__ := ok_Row_getitem c
  have D_most_at_an_end := ok_most_at_an_end c
  refine ⟨walkD F sc_at_one_end (fun vs H Q E h => ?_) (fun cdv A outer s H vs Q E hr h => ?_) fun _ _ _ _ _ _ us hl => match us, hl with | [_, _], _ => rfl, c.m_at_one_end, F.kp⟩
  · obtain ⟨a, b, _, rfl, _⟩ := h
    rfl
  · obtain ⟨p, bs, sm, rfl, hR, hT, hlen, Qk⟩ := h
    have hu := hu_of hr
    have hu65 : ∀ {B : Around} {j : Nat}, Room j B → B.units + 65 < cLine := fun r => by have := r.un; omega
    obtain ⟨dx, l, hp, hl⟩ := hR.ex
    have b1000 : (1000 : Nat) < sizeLine := by decide
    have lbw : bs.bows.length = bs.length := List.length_map ..
    refine ⟨_, (pss_cons (ps_asg (D_most_at_an_end.callK (hr.mono (by decide)) rfl (pa_cons (pv 0) pa_nil) (pk_cons (pv 1) pk_nil)) (pg_tup_k (K0 := K) (n := 3) (by rfl) (by rfl) (pgs_cons (pg_name (i := 2) sc_at_one_end.nd rfl (by first | exact Or.inl rfl | exact Or.inr rfl)) (pgs_cons (pg_name (i := 3) sc_at_one_end.nd rfl (by first | exact Or.inl rfl | exact Or.inr rfl)) (pgs_cons (pg_name (i := 4) sc_at_one_end.nd rfl (by first | exact Or.inl rfl | exact Or.inr rfl)) pgs_nil)))))
      (pss_cons (ps_setLc (i := 5) rfl sc_at_one_end.nd rfl rfl (sw_true rfl rfl rfl (by decide +kernel)) (pi_range1 (by rfl) c.f_range (pa_cons (pe_callB (Dm.len (K0 := K) (by rfl) D_Row___len__ (hr.mono (by decide))) (by rfl) c.f_len PySem.boot_len (pa_cons (pv 0) pa_nil)) pa_nil)) (blkOk_by (own := [("index", 6)]) (by show blkC ["row", "same", "side", "place", "many", "some", "index", "at"] (defScope s_at_one_end) _ _ = true; decide +kernel)) (fun _ _ _ _ _ => (pg_name (i := 6) sc_at_one_end.nd rfl (by first | exact Or.inl rfl | exact Or.inr rfl))) (fun _ _ _ _ _ => (pts_one (pt_cmpR op_eq (pe_ix (ix_tup_k (K0 := K) (by rfl)) (Dm.ix (K0 := K) (by rfl) D_Row___getitem__ c.fi_Row (hr.mono (by decide)) (pv 0) (pv 6)) (pe_callTy call_int1 (by rfl) c.f_int (by decide +kernel) (pa_cons (pe_cmpR op_eq (pv 2) pe_str (nomark _)) pa_nil)) (fun _ _ => rfl)) (pv 3) (nomark _)))) (fun _ _ _ _ _ => (pv 6)))
      (pss_cons (ps_if (pt_not (pt_val (pv 1))) (pss_one (ps_ret (pe_ifExp (pt_cmpR op_gt (pv 4) pe_int (nomark _)) (pv 5) (pe_lst pa_nil)))) pss_nil)
      (pss_one (ps_ret (pe_lc rfl sc_at_one_end.nd (pi_list_k (K0 := K) (by rfl) (pv 5)) (blkOk_by (own := [("index", 6)]) (by show blkC ["row", "same", "side", "place", "many", "some", "index", "at"] (defScope s_at_one_end) _ _ = true; decide +kernel)) (fun _ _ _ _ _ => (pg_name (i := 6) sc_at_one_end.nd rfl (by first | exact Or.inl rfl | exact Or.inr rfl))) (fun _ _ _ _ _ => (pts_one (pt_cmpR (op_notInD_k (K0 := K) (by rfl) (hu65 hr)) (Dm.ix (K0 := K) (by rfl) D_Row___getitem__ c.fi_Row (hr.mono (by decide)) (pv 0) (pv 6)) (pe_lc rfl sc_at_one_end.nd (pi_range1 (by rfl) c.f_range (pa_cons (pv 6) pa_nil)) (blkOk_by (own := [("at", 7)]) (by show blkC ["row", "same", "side", "place", "many", "some", "index", "at"] (relS _ (defScope s_at_one_end)) _ _ = true; decide +kernel)) (fun _ _ _ _ _ => (pg_name (i := 7) sc_at_one_end.nd rfl (by first | exact Or.inl rfl | exact Or.inr rfl))) (fun _ _ _ _ _ => pts_nil) (fun _ _ _ _ _ => (Dm.ix (K0 := K) (by rfl) D_Row___getitem__ c.fi_Row (hr.mono (by decide)) (pv 0) (pv 7)))) (by rfl)))) (fun _ _ _ _ _ => (pv 6)))))))), ?_⟩
    refine ⟨_, rfl, _, rfl, rfl, rfl, p, bs, sm, rfl, hR, hT, hlen, fun T H1 s pl xs nd mem eT mx s1 => ?_⟩
    refine ⟨T, _, rfl, .inl (.inl eT), rfl, _, _, rfl, _, _, rfl, _, _, rfl, rfl, ?_⟩
    refine ⟨_, rfl, p, dx, _, rfl, s1 _ _ hp, p, bs, rfl, hR.same s1, bs.length, rfl, by omega, ?_⟩
    have hR1 := hR.same s1
    have hT1 := hT.same s1
    refine ⟨((bs.length : Nat) : Int), rfl, by omega, by omega, fun Z hZ => ?_⟩
    rw [Int.toNat_natCast]
    refine lc_accR (lo := 0) (n := bs.length) (accF (List.range bs.length) (fun i => decide (atS s (bat bs.bows i) = pl)) fun i => V.int (i : Nat)) (by omega) hZ rfl (fun i H5 hi s5 _ K1 K0 k1 k0 => ?_) fun H5 s5 e5 => ?_
    · refine ⟨rfl, ?_⟩
      rw [Int.zero_add]
      obtain ⟨b, hb⟩ : ∃ b, bs[i]? = some b := ⟨_, List.getElem?_eq_getElem hi⟩
      have hbt := bat_at hb
      have eb := (hT1.same s5) b (List.mem_of_getElem? hb)
      refine ⟨_, rfl, _, rfl, ⟨p, dx, _, rfl, s5 _ _ (s1 _ _ hp)⟩, p, bs, i, b, rfl, hR1.same s5, hb, ?_⟩
      refine ⟨_, rfl, rfl, .inr ⟨decide (V.str (sideN s) = V.str "end"), rfl, ?_⟩⟩
      have es : decide (V.str (sideN s) = V.str "end") = s := by cases s <;> decide
      rw [es]
      refine ⟨b.1, _, _, _, rfl, rfl, .inl (.inl eb), atI_two s, _, rfl, rfl, _, rfl, ?_⟩
      have ea : (if s = true then b.2.2 else b.2.1) = atS s (bat bs.bows i) := by rw [hbt]; rfl
      rw [ea]
      refine iteI (fun h => ?_) (fun h => ?_)
      · exact ⟨_, rfl, k1 _ _ (Same.refl _) (accF_yes (rangeget hi) (decide_eq_true h))⟩
      · exact k0 _ (Same.refl _) (accF_no (rangeget hi) (decide_eq_false h))
    rw [accF_all (List.length_range).symm] at e5
    have s15 := s1.trans s5
    have hR5 := hR1.same s5
    have hT5 := hT1.same s5
    generalize hfl : ((List.range bs.length).filter fun i => decide (atS s (bat bs.bows i) = pl)) = fl at e5
    have fin : ∀ (zs : List V), zs.length = (atEnd bs.bows sm s pl).length → ∀ G : Nat → Nat → Bool, (∀ i j, i < bs.length → j < bs.length → i ≠ j → (G i j = true ↔ OkC sm (bat bs.bows i) (bat bs.bows j))) → IsMost G bs.length 1 zs.length := fun zs hz G hG => by
      rw [hz]
      have := atEnd_most (G := G) (sm := sm) (s := s) (p := pl) nd mem mx fun i j hi hj ne => hG i j (by omega) (by omega) ne
      rw [lbw] at this
      exact this
    refine ⟨_, rfl, sm, rfl, ?_⟩
    refine iteN (fun hs => ?_) (fun hs => ?_)
    · have efl : atEnd bs.bows sm s pl = fl := by
        rw [← hfl]
        unfold atEnd
        rw [lbw]
        exact List.filter_congr fun i _ => by rw [hs]; simp
      refine ⟨_, rfl, _, _, rfl, rfl, _, rfl, ?_⟩
      refine iteP (fun h => ?_) (fun h => ?_)
      · exact ⟨_, rfl, Qk Z H5 _ e5 (fin _ (by rw [efl, List.length_map])) s15⟩
      · refine ⟨Nat.zero_le _, fun L hL => Qk L _ [] upd_same (fin _ ?_) (s15.trans (same_upd hL))⟩
        have hnil : bs.bows = [] := by
          refine Classical.byContradiction fun ne => ?_
          obtain ⟨x, hx⟩ := List.exists_mem_of_ne_nil _ ne
          have h1 := endSum_pos (sm := sm) (s := s) hx ((mem x).mp hx)
          have h2 := mx s (atS s x)
          have h : ¬ 0 < endSum bs.bows xs sm s pl := h
          omega
        rw [hnil]; rfl
    · have efl : atEnd bs.bows sm s pl = fl.filter fun i => firstB bs.bows i := by
        rw [← hfl]
        unfold atEnd
        rw [lbw, List.filter_filter]
        exact List.filter_congr fun i _ => by rw [hs]; exact Bool.and_comm _ _
      have lfl : fl.length ≤ bs.length := by
        rw [← hfl]
        exact Nat.le_trans (List.length_filter_le _ _) (by rw [List.length_range]; exact Nat.le_refl _)
      refine ⟨_, rfl, Z, rfl, ⟨_, .inl (.inl e5)⟩, fun Y hY => ?_⟩
      refine lc_accL (accF fl (fun i => firstB bs.bows i) fun i => V.int (i : Nat)) (.inl (.inl e5)) (by rw [List.length_map]; omega) hY rfl (fun i x H9 hx9 s9 _ K1 K0 k1 k0 => ?_) fun H9 s9 e9 => ?_
      · obtain ⟨j, hj, rfl⟩ : ∃ j, fl[i]? = some j ∧ V.int (j : Nat) = x := by rw [List.getElem?_map] at hx9; exact Option.map_eq_some_iff.mp hx9
        have jlt : j < bs.length := by
          have := List.mem_of_getElem? hj
          rw [← hfl] at this
          exact List.mem_range.mp (List.mem_filter.mp this).1
        obtain ⟨b, hb⟩ : ∃ b, bs[j]? = some b := ⟨_, List.getElem?_eq_getElem jlt⟩
        have hbt := bat_at hb
        have hp9 := s9 _ _ (s5 _ _ (s1 _ _ hp))
        have hR9 := hR5.same s9
        have hT9 := hT5.same s9
        have eb := hT9 b (List.mem_of_getElem? hb)
        refine ⟨rfl, ?_⟩
        refine ⟨_, rfl, _, rfl, ⟨p, dx, _, rfl, hp9⟩, p, bs, j, b, rfl, hR9, hb, ?_⟩
        refine ⟨_, rfl, ((j : Nat) : Int), rfl, by omega, by omega, fun U hU => ?_⟩
        rw [Int.toNat_natCast]
        refine lc_accR (lo := 0) (n := j) (accM bs.vs fun v => v) (by omega) hU rfl (fun k H10 hk s10 _ K1' K0' k1' k0' => ?_) fun H10 s10 e10 => ?_
        · obtain ⟨d, hd⟩ : ∃ d, bs[k]? = some d := ⟨_, List.getElem?_eq_getElem (by omega)⟩
          have hdv : bs.vs[k]? = some (V.ref d.1) := by rw [List.getElem?_map, hd]; rfl
          refine ⟨rfl, _, rfl, _, rfl, ⟨p, dx, _, rfl, s10 _ _ hp9⟩, p, bs, k, d, ?_, hR9.same s10, hd, ?_⟩
          · rw [Int.zero_add]
          · exact k1' _ _ (Same.refl _) (accM_succ (f := fun v : V => v) hdv)
        have e10' : H10 U = some (.lst (Bs.vs (List.take j bs))) := by
          rw [e10]
          unfold accM
          rw [List.map_id']
          show some (HO.lst (List.take j (List.map _ bs))) = _
          rw [← List.map_take]
        have hT10 : Trk H10 (List.take j bs) := fun z hz => s10 _ _ (hT9 z (List.mem_of_mem_take hz))
        refine ⟨pr b.2, _, .tup (.inl (.inl (s10 _ _ eb))) (.cons (.int _) (.cons (.int _) .nil)), .lst (.inl (.inl e10')) (dp_prs _ hT10), shaped_pr _, shaped_prs _, _, rfl, ?_⟩
        rw [any_prs, take_bows (by omega), ← hbt]
        have ef : (!((List.range j).map (bat bs.bows)).contains (bat bs.bows j)) = firstB bs.bows j := rfl
        rw [ef]
        refine iteB (fun h => ?_) (fun h => ?_)
        · exact ⟨_, rfl, k1 _ _ s10 (accF_yes hj h)⟩
        · exact k0 _ s10 (accF_no hj h)
      rw [accF_all (by rw [List.length_map])] at e9
      exact Qk Y H9 _ e9 (fin _ (by rw [efl, List.length_map])) (s15.trans s9)
end
end Bw
end
section
set_option Elab.async false
set_option linter.all false
set_option maxRecDepth 100000
set_option maxHeartbeats 0
namespace Bw
open PySem PySem.Spec PyProof.Rows L2
def spLaw (K : PySem.W.Frag) : Sp := fun vs H Q _ => ∃ (a : Addr) (ns : List Int), vs = [.ref a] ∧ SqL K H a (ns.map V.int) ∧ ns.length ≤ 63 ∧ ∀ H', Q (.bl true) H'
/-- what is left: the law's def keeps its promise -/
def LawOk (k : Nat) : Prop := ∀ (w : World) (K : PySem.W.Frag) (mg : Str → Option Value) (fa0 : Addr) (h base : Heap), K.In h → h.Ns mainGlobals mg → mg ("law" : Str) = some (.ref fa0) → Says w K → K.In base → base.Ns mainGlobals mg →
  ∀ fd, He.fAd K ("law", none) = fa0 → FunD K "law" "law" (defArgs s_law) (defBody s_law) (defScope s_law) [] [] fa0 fd → FnOk (PySem.Challenge.rw_bowkinds_k68_whole_leaving_and_greatest).prog w K mg base CX0 k fa0 fd ["_law_script"] (spLaw K)
theorem law_ix : fn[77]? = some d_law := by rfl
theorem fa_law : He.Fa.glo "law" ∈ fa := List.mem_of_getElem? (i := 52) rfl
end Bw
open PySem PySem.W PySem.Calls PyProof.Rows
theorem Bw.e1 : opening Bw.R.prog = plainProg Bw.R.prog.main.scope.names := by kernel_rfl
theorem Bw.e2 : ∀ s, fenceModules? Bw.R.prog s = some s := fun s => by kernel_rfl
theorem Bw.e3 : defOf (view Bw.R.prog [80]) Bw.R.name = some (HandSHeadRun.topDef Bw.R.prog 80, []) := by kernel_rfl
theorem Bw.e4 : Bw.R.prog.theDef Bw.R.name = some ((HandSHeadRun.topDef Bw.R.prog 80).params, (HandSHeadRun.topDef Bw.R.prog 80).body, (HandSHeadRun.topDef Bw.R.prog 80).scope) := by kernel_rfl
theorem Bw.e5 : kwWritten? (HandSHeadRun.topDef Bw.R.prog 80).params.kwonlyargs (HandSHeadRun.topDef Bw.R.prog 80).params.kw_defaults = some [] := by kernel_rfl
theorem Bw.e6 : (chainsOk (view Bw.R.prog [80]) && opensWell Bw.R.prog && (frees Bw.R.toRowW && Bw.R.within.isEmpty)) = true := by decide +kernel
theorem Bw.e7 : Bw.R.prog.bare := ⟨rfl, rfl, rfl, rfl, rfl, by decide +kernel⟩
theorem Bw.e8 : (!Bw.R.writes || Bw.R.records.isEmpty) = true := by rfl
/-- one part behind another: the whole at once takes much memory -/
theorem Bw.andT {a b : Bool} (h : a = true) (h' : b = true) : (a && b) = true := by rw [h, h']; rfl
theorem Bw.e9 : Bw.R.wellSaid = true := by
  show OpenRow.wellSaid _ = true
  delta PySem.W.OpenRow.wellSaid
  with_reducible repeat' refine Bw.andT ?_ ?_
  · delta PySem.W.OpenRow.partSaid
    with_reducible repeat' refine Bw.andT ?_ ?_
    · delta PySem.W.looksOpen
      with_reducible repeat' refine Bw.andT ?_ ?_
      all_goals decide +kernel
    all_goals decide +kernel
  all_goals decide +kernel
theorem Bw.e10 : Bw.R.toRowW.promised := by w_witness2

theorem Bw.call_of {k : Nat} (hk100 : L2.Room k callerA) (L : Bw.LawOk k) : WalkO (view Bw.R.prog [80]) Bw.loose (XL (view Bw.R.prog [80]) []) Bw.hk.says Bw.R.toRowW (HandSHeadRun.topDef Bw.R.prog 80) [] fun f vs => PySem.call f vs := by
  refine L2.walk_ofE (l := PySem.Challenge.rw_bowkinds_k68_whole_leaving_and_greatest) (n := 63) (k := k) (x := "_law_script") (CX := L2.CX0) rfl (by decide) (by kernel_rfl) hk100 ?F (fun _ _ _ _ z => z)
  intro w mg fa h Y G hmg0
  obtain ⟨K, KX, c⟩ := Y
  have hmg : mg ("law" : PySem.Str) = some (.ref fa) := by
    have e : (HandSHeadRun.topDef Bw.R.prog 80).name = ("law" : PySem.Str) := by kernel_rfl
    rw [← e]
    exact hmg0
  obtain ⟨fd, F⟩ := c.1.d.def_ 77 (d := Bw.d_law) Bw.law_ix
  have e := hmg.symm.trans (He.glo_ok KX G (c.1.d.facts Bw.fa_law))
  have e2 : fa = He.ga K "law" := by injection e with e; injection e
  subst e2
  have b := L2.FunD.bindsA (ps := ["_law_script"]) F fun _ _ _ _ _ _ us hl => match us, hl with | [_], _ => rfl
  exact ⟨K, fd, Bw.spLaw K, KX, fun s v => b s [v] rfl, fun H a ns hl _ hS => ⟨a, ns, rfl, hS, hl, fun _ => rfl⟩, fun base hb hn => L w K mg _ h base KX G hmg c hb hn fd rfl F⟩
theorem Bw.holds_of {k : Nat} (hk100 : L2.Room k callerA) (L : Bw.LawOk k) : Bw.R.Holds :=
  HandSHeadRun.head_any (r := Bw.R) (q := view Bw.R.prog [80]) (H := Bw.hk) (ob := Bw.ob) (M := 20000) (loose := Bw.loose) (d := HandSHeadRun.topDef Bw.R.prog 80) (kwd := []) Bw.ob_eq
    Bw.e1 Bw.e2 Bw.run Bw.e3 Bw.e4 Bw.e5 Bw.e8 Bw.e9 Bw.e6 Bw.e7 Bw.e10 (Bw.call_of hk100 L)
end
section
set_option Elab.async false
set_option linter.all false
set_option maxRecDepth 100000
set_option maxHeartbeats 8000000
namespace Bw
open PySem PySem.Spec PyProof.Rows L2
/-! ### the plain side -/
theorem chi_le {G : Nat → Nat → Bool} {n v : Nat} {S : Nat → Bool} (h : IsChi G n S v) : v ≤ n := (h n).mpr (cov_self n S)
theorem LeftOk.len {G : Nat → Nat → Bool} {n : Nat} {vs : List Int} (h : LeftOk G n vs) : vs.length ≤ n + 1 := by
  obtain ⟨v, hv, hl, _⟩ := h
  have := chi_le hv
  omega
theorem Greatest.len {G : Nat → Nat → Bool} {n : Nat} {ls : List (List Nat)} (h : Greatest G n ls) (sym : ∀ i j, G i j = G j i) {s : List Nat} (hs : s ∈ ls) : IsMost G n 1 s.length := by
  obtain ⟨m, _, h2, h3⟩ := h
  obtain ⟨a, b⟩ := (h2 s).mp hs
  exact isMost_one sym ⟨s, a, rfl⟩ fun t ht => by rw [b]; exact h3 t ht
theorem Greatest.full {G : Nat → Nat → Bool} {n : Nat} {ls : List (List Nat)} (h : Greatest G n ls) (sym : ∀ i j, G i j = G j i) {s : List Nat} (hs : s ∈ ls) : Lay G n s ∧ isFull G n s = true := by
  obtain ⟨m, _, h2, h3⟩ := h
  obtain ⟨a, b⟩ := (h2 s).mp hs
  refine ⟨a, ?_⟩
  unfold isFull
  cases e : (oth n s).any fun i => s.all fun one => G i one with
  | false => rfl
  | true =>
    exfalso
    obtain ⟨i, hi, hall⟩ := List.any_eq_true.mp e
    obtain ⟨i1, i2⟩ := List.mem_filter.mp hi
    have hin := List.mem_range.mp i1
    have his : s.contains i = false := by simpa using i2
    have adj : ∀ x ∈ s, G i x = true := fun x hx => List.all_eq_true.mp hall x hx
    have hl : Lay G n (listOf (fun j => s.contains j || decide (j = i)) n) := listOf_lay fun x y hxy hyn sx sy => by
      have cx : x ∈ s ∨ x = i := by simpa using sx
      have cy : y ∈ s ∨ y = i := by simpa using sy
      rcases cx with cx | cx <;> rcases cy with cy | cy
      · exact lay_adj sym a cy cx (by omega)
      · rw [cy]; exact adj x cx
      · rw [cx, sym]; exact adj y cy
      · omega
    have h4 := h3 _ hl
    have e2 : (listOf (fun j => s.contains j || decide (j = i)) n).length = cnt (fun j => s.contains j || decide (j = i)) n := cnt_filter _ n
    rw [e2, cnt_add his, lay_cnt a, if_pos hin] at h4
    omega
theorem gr_wider {bs : List Bow} {k k2 : Kd} (i j : Nat) (h : gr bs k i j = true) : gr bs (fun y => k y || k2 y) i j = true := by
  unfold gr at h ⊢
  rw [Bool.and_eq_true] at h ⊢
  exact ⟨h.1, by show (k _ || k2 _) = true; rw [h.2]; rfl⟩
theorem gr_erase (bs : List Bow) (k : Kd) (a : Nat) : gr (bs.eraseIdx a) k = fun i j => gr bs k (skip a i) (skip a j) := by
  funext i j
  have hg : ∀ i, (bs.eraseIdx a).getD i (0, 1) = bs.getD (skip a i) (0, 1) := fun i => by
    rw [List.getD_eq_getElem?_getD, List.getD_eq_getElem?_getD, List.getElem?_eraseIdx]
    unfold skip
    split <;> rfl
  unfold gr
  rw [hg, hg]
  have : decide (i ≠ j) = decide (skip a i ≠ skip a j) := decide_eq_decide.mpr ⟨fun h e => h (by unfold skip at e; split at e <;> split at e <;> omega), fun h e => h (by rw [e])⟩
  rw [this]
theorem less_weighty {G : Nat → Nat → Bool} {n a : Nat} {vs ws : List Int} (ha : a ≤ n) (h : LeftOk G (n + 1) vs) (h' : LeftOk (fun i j => G (skip a i) (skip a j)) n ws) : ws.length < vs.length ↔ Weighty G (n + 1) a := by
  obtain ⟨v, hv, hl, _⟩ := h
  obtain ⟨u, hu, hl', _⟩ := h'
  have hs := chi_skip ha hu
  constructor
  · intro hlt
    exact ⟨u, v, hs, hv, by omega⟩
  · rintro ⟨x, y, a1, a2, a3⟩
    have e1 := hs.unique a1
    have e2 := hv.unique a2
    omega
section
variable {w : World} {K : PySem.W.Frag} {mg : Str → Option Value} {base : Heap}
theorem RowAt.but {H H' : Hp} {p l x : Addr} {cs : List Int} {bs : Bs} (hb : BagAt K p l cs H) (bt : But p H H') (h : RowAt K H x bs) : RowAt K H' x bs := by
  obtain ⟨a1, a2, a3, a4, _⟩ := hb
  obtain ⟨dx, r, h1, h2⟩ := h.ex
  refine ⟨⟨dx, r, bt _ _ h1 (ne_of h1 a4 (by intro z; cases z)), bt _ _ h2 fun z => ?_⟩, fun b hb => ⟨bt.tup a4 (h.ok b hb).1, (h.ok b hb).2⟩⟩
  rw [z, a4] at h2
  injection h2 with h2
  injection h2 with h2
  cases bs with
  | nil => cases h2
  | cons b bs => injection h2 with h2 _; cases h2
theorem KindAt.but {H H' : Hp} {p l x : Addr} {cs : List Int} {k : Kd} (hb : BagAt K p l cs H) (bt : But p H H') (h : KindAt K H x k) : KindAt K H' x k := by
  obtain ⟨a1, a2, a3, a4, _⟩ := hb
  obtain ⟨dx, r, h1, h2⟩ := h.ex
  refine ⟨⟨dx, r, bt _ _ h1 (ne_of h1 a4 (by intro z; cases z)), bt _ _ h2 fun z => ?_⟩⟩
  rw [z, a4] at h2
  injection h2 with h2
  injection h2 with h2
  exact ways_ne_bag h2.symm
theorem ints_but {H H' : Hp} {p l x : Addr} {cs : List Int} {xs : List Int} (hb : BagAt K p l cs H) (bt : But p H H') (h : H x = some (iO xs)) : H' x = some (iO xs) := by
  obtain ⟨a1, a2, a3, a4, _⟩ := hb
  refine bt _ _ h fun z => ?_
  rw [z, a4] at h
  injection h with h2
  injection h2 with h2
  match xs, h2 with
  | a :: b :: c :: d :: r, h2 =>
    injection h2 with _ h2
    injection h2 with _ h2
    injection h2 with _ h2
    injection h2 with h2 _
    cases h2
theorem dpAll_ls {H : Hp} : ∀ {qs : Os} {L : List (List Nat)}, qs.map (·.2) = L.map nO → OsAt H qs → DpAll K H qs.vs (L.map dL)
  | [], [], _, _ => .nil
  | q :: qs, l :: L, h, ho => by
    rw [List.map_cons, List.map_cons] at h
    injection h with h1 h2
    exact .cons (dp_nO (by rw [ho q (List.mem_cons_self ..), h1])) (dpAll_ls h2 fun x hx => ho x (List.mem_cons_of_mem _ hx))
  | [], _ :: _, h, _ => by cases h
  | _ :: _, [], h, _ => by cases h
theorem canLay_dLs : ∀ L : List (List Nat), PyData.canLayAll0 (L.map dL) = true
  | [] => rfl
  | l :: L => by
    rw [List.map_cons, PyData.canLayAll0, canLay_dLs L, PyData.canLay0, canLay_dN]
    rfl
theorem depth_dLs : ∀ L : List (List Nat), PyData.depthAll (L.map dL) ≤ 2
  | [] => by decide
  | l :: L => by
    rw [List.map_cons, PyData.depthAll, PyData.depth]
    exact Nat.max_le.mpr ⟨by have := depth_dN l; omega, depth_dLs L⟩
theorem shaped_dL (l : List Nat) : SeqAt.shaped (dL l) = true := by
  unfold SeqAt.shaped
  rw [PyData.canLay0, canLay_dN, PyData.depth, decide_eq_true (by have := depth_dN l; omega)]
  rfl
theorem shaped_dLs (L : List (List Nat)) : SeqAt.shaped (.list (L.map dL)) = true := by
  unfold SeqAt.shaped
  rw [PyData.canLay0, canLay_dLs, PyData.depth, decide_eq_true (by have := depth_dLs L; omega)]
  rfl
theorem any_eqv {s : List Nat} {L : List (List Nat)} (h : s ∈ L) : ((L.map dL).any fun z => PyData.eqv z (dL s)) = true := by
  rw [List.any_map]
  exact List.any_eq_true.mpr ⟨s, h, by show PyData.eqv (dL s) (dL s) = true; rw [eqv_dL]; exact decide_eq_true rfl⟩
theorem walkD1 {P : Program} {w : World} {K : PySem.W.Frag} {mg : Str → Option Value} {base : Heap} {x qual : Str} {params : Arguments} {body : List Stmt} {scope : Scope} {f : Addr} {fd : FuncData} {N ps : List Str} {k : Nat} {sp : Sp} {kws : List (Str × V)}
    (F : FunD K x qual params body scope [] kws f fd) (S : FnScope N ps scope) (len : ∀ vs H Q E, sp vs H Q E → vs.length = ps.length)
    (hbody : ∀ (cdv : Value) (A : Around) (outer : List Env) (s : Shared) (H : Hp) (vs : List V) (Q : VK) (E : XK), Room k (A.deeper (envOfC qual scope s.heap.objs.size f cdv)) → sp vs H Q E →
      ∃ t, PSs (cxOf CX0 P w K mg base N qual scope f cdv A outer s H E).nox body t ∧ t { nx := fun _ H' => Q .non H', rt := Q } (start N vs) H) :
    FnOk P w K mg base CX0 (k + 1) f fd ps sp := F.ok S len fun cdv A outer s H vs Q E hr h => let ⟨t, h1, q⟩ := hbody cdv A outer s H vs Q E hr h; ⟨t, h1.nox, q⟩
/-- what greatest_layer promises -/
def spGL (K : PySem.W.Frag) : Sp := fun vs H Q _ => ∃ (p q : Addr) (bs : Bs) (k : Kd), vs = [.ref p, .ref q] ∧ RowAt K H p bs ∧ Trk H bs ∧ KindAt K H q k ∧ bs.length ≤ 9 ∧
  ∀ a H' xs, H' a = some (.lst xs) → IsMost (gr bs.bows k) bs.length 1 xs.length → Same H H' → Q (.ref a) H'
theorem sc_law : FnScope ["_law_script", "_law_bag_here", "_law_turn", "_law_bows_here", "_law_ways", "_law_row", "_law_kind", "_law_values", "_law_great", "_law_full", "_law_at_here", "_law_less", "_law_many", "_law_wider", "_law_one_here"] ["_law_script"] (defScope s_law) := ⟨rfl, rfl, rfl, by decide +kernel, rfl, by decide +kernel, by decide +kernel⟩
theorem ok_law (c : Cy w K mg base) (D_greatest_layer : Dn PG w K mg base "greatest_layer" 40 ["row", "kind"] (spGL K)) {fd : FuncData}
    (F : FunD K d_law.name d_law.qual (defArgs s_law) (defBody s_law) (defScope s_law) [] (d_law.kws K) (He.fAd K d_law.at_) fd) : FnOk PG w K mg base CX0 41 (He.fAd K d_law.at_) fd ["_law_script"] (spLaw K) := by
  have D__law_bag := ok_law_bag c
  have D__law_take := ok_law_take c
  have D__law_row_drawn := ok_law_row_drawn c
  have D__law_kind_drawn := ok_law_kind_drawn c
  have D__law_ways_drawn := ok_law_ways_drawn c
  have D__law_falls := ok_law_falls c
  have D__law_at := ok_law_at c
  have D_Row___init__ := ok_Row_init c
  have D_Row_without := ok_Row_without c
  have D_Kind___init__ := ok_Kind_init c
  have D_Kind___or__ := ok_Kind_or c
  have D_left_values := ok_left_values c
  have D_greatest_layers := ok_greatest_layers c
  have D_full_layers := ok_full_layers c
  have D_weighty_bows := ok_weighty_bows c
  refine walkD1 F sc_law (fun vs H Q E h => ?_) (fun cdv A outer s H vs Q E hr h => ?_)
  · obtain ⟨a, b, rfl, _⟩ := h
    rfl
  · obtain ⟨a0, ns, rfl, hS, hl63, Qk⟩ := h
    have hu := hu_of hr
    have hu65 : ∀ {B : Around} {j : Nat}, Room j B → B.units + 65 < cLine := fun r => by have := r.un; omega
    have b1000 : (1000 : Nat) ≤ sizeLine := by decide
    refine ⟨_, (pss_cons (ps_set (i := 1) sc_law.nd rfl (by first | exact Or.inl rfl | exact Or.inr rfl) (D__law_bag.call (hr.mono (by decide)) rfl (pa_cons (pv 0) pa_nil)))
      (pss_cons (ps_for PassesOwn.never rfl (pi_range1 (by rfl) c.f_range (pa_cons pe_int pa_nil)) (pg_name (i := 2) sc_law.nd rfl (by first | exact Or.inl rfl | exact Or.inr rfl)) (pss_cons (ps_par (i := 3) (j := 4) (by rfl) sc_law.nd rfl rfl (by decide) rfl rfl (pa_cons (D__law_row_drawn.call (hr.mono (by decide)) rfl (pa_cons (pv 1) (pa_cons pe_int pa_nil))) (pa_cons (D__law_kind_drawn.call (hr.mono (by decide)) rfl (pa_cons (pv 1) pa_nil)) pa_nil)) (by rfl))
      (pss_cons (ps_asg (pe_tup (pa_cons (Di.make (K0 := K) (by rfl) D_Row___init__ (hr.mono (by decide)) rfl (pa_cons (pv 3) pa_nil)) (pa_cons (Di.make (K0 := K) (by rfl) D_Kind___init__ (hr.mono (by decide)) rfl (pa_cons (pv 4) pa_nil)) pa_nil))) (pg_tup_k (K0 := K) (n := 2) (by rfl) (by rfl) (pgs_cons (pg_name (i := 5) sc_law.nd rfl (by first | exact Or.inl rfl | exact Or.inr rfl)) (pgs_cons (pg_name (i := 6) sc_law.nd rfl (by first | exact Or.inl rfl | exact Or.inr rfl)) pgs_nil))))
      (pss_cons (ps_asg (pe_tup (pa_cons (D_left_values.call (hr.mono (by decide)) rfl (pa_cons (pv 5) (pa_cons (pv 6) pa_nil))) (pa_cons (D_greatest_layers.call (hr.mono (by decide)) rfl (pa_cons (pv 5) (pa_cons (pv 6) pa_nil))) pa_nil))) (pg_tup_k (K0 := K) (n := 2) (by rfl) (by rfl) (pgs_cons (pg_name (i := 7) sc_law.nd rfl (by first | exact Or.inl rfl | exact Or.inr rfl)) (pgs_cons (pg_name (i := 8) sc_law.nd rfl (by first | exact Or.inl rfl | exact Or.inr rfl)) pgs_nil))))
      (pss_cons (ps_if (PW.pt (pw_or (pt_not (pt_val (D__law_falls.call (hr.mono (by decide)) rfl (pa_cons (pv 7) (pa_cons (pe_callB (call_len_seq_k (K0 := K) (by rfl)) (by rfl) c.f_len PySem.boot_len (pa_cons (pv 3) pa_nil)) pa_nil))))) (pw_or1 (pt_cmpR op_ne (D__law_at.call (hr.mono (by decide)) rfl (pa_cons (pv 7) (pa_cons pe_int pa_nil))) (pe_op op_sub (pe_callB (call_len_seq_k (K0 := K) (by rfl)) (by rfl) c.f_len PySem.boot_len (pa_cons (pv 3) pa_nil)) (pe_callB (call_len_seq_k (K0 := K) (by rfl)) (by rfl) c.f_len PySem.boot_len (pa_cons (pe_ix (ix_list_k (K0 := K) (by rfl)) (pv 8) pe_int (fun _ _ => rfl)) pa_nil))) (nomark _))))) (pss_one (ps_ret pe_bl)) pss_nil)
      (pss_cons (ps_set (i := 9) sc_law.nd rfl (by first | exact Or.inl rfl | exact Or.inr rfl) (D_full_layers.call (hr.mono (by decide)) rfl (pa_cons (pv 5) (pa_cons (pv 6) pa_nil))))
      (pss_cons (ps_if (pt_cmpR (op_neNil_k (K0 := K) (by rfl) hu) (pe_lc rfl sc_law.nd (pi_list_k (K0 := K) (by rfl) (pv 8)) (blkOk_by (own := [("_law_one_here", 14)]) (by show blkC ["_law_script", "_law_bag_here", "_law_turn", "_law_bows_here", "_law_ways", "_law_row", "_law_kind", "_law_values", "_law_great", "_law_full", "_law_at_here", "_law_less", "_law_many", "_law_wider", "_law_one_here"] (defScope s_law) _ _ = true; decide +kernel)) (fun _ _ _ _ _ => (pg_name (i := 14) sc_law.nd rfl (by first | exact Or.inl rfl | exact Or.inr rfl))) (fun _ _ _ _ _ => (pts_one (PW.pt (pw_or (pt_cmpR (op_notInD_k (K0 := K) (by rfl) (hu65 hr)) (pv 14) (pv 9) (by rfl)) (pw_or1 (pt_cmpR op_ne (pe_callB (call_len_seq_k (K0 := K) (by rfl)) (by rfl) c.f_len PySem.boot_len (pa_cons (pv 14) pa_nil)) (pe_callB (call_len_seq_k (K0 := K) (by rfl)) (by rfl) c.f_len PySem.boot_len (pa_cons (D_greatest_layer.call (hr.mono (by decide)) rfl (pa_cons (pv 5) (pa_cons (pv 6) pa_nil))) pa_nil)) (nomark _))))))) (fun _ _ _ _ _ => (pv 14))) (pe_lst pa_nil) (nomark _)) (pss_one (ps_ret pe_bl)) pss_nil)
      (pss_cons (ps_if (pt_cmpR (op_neNil_k (K0 := K) (by rfl) hu) (pv 3) (pe_lst pa_nil) (nomark _)) (pss_cons (ps_set (i := 10) sc_law.nd rfl (by first | exact Or.inl rfl | exact Or.inr rfl) (D__law_take.call (hr.mono (by decide)) rfl (pa_cons (pv 1) (pa_cons (pe_callB (call_len_seq_k (K0 := K) (by rfl)) (by rfl) c.f_len PySem.boot_len (pa_cons (pv 3) pa_nil)) pa_nil))))
      (pss_cons (ps_set (i := 11) sc_law.nd rfl (by first | exact Or.inl rfl | exact Or.inr rfl) (D_left_values.call (hr.mono (by decide)) rfl (pa_cons (Dm.call (K0 := K) (by rfl) D_Row_without (hr.mono (by decide)) (pv 5) (pa_cons (pv 10) pa_nil)) (pa_cons (pv 6) pa_nil))))
      (pss_cons (ps_for PassesOwn.never rfl (pi_range1 (by rfl) c.f_range (pa_cons (pe_callB (call_len_seq_k (K0 := K) (by rfl)) (by rfl) c.f_len PySem.boot_len (pa_cons (pv 7) pa_nil)) pa_nil)) (pg_name (i := 12) sc_law.nd rfl (by first | exact Or.inl rfl | exact Or.inr rfl)) (pss_one (ps_if (pt_cmpR (op_notIn_seq_k (K0 := K) (by rfl)) (pe_op op_sub (D__law_at.call (hr.mono (by decide)) rfl (pa_cons (pv 7) (pa_cons (pv 12) pa_nil))) (D__law_at.call (hr.mono (by decide)) rfl (pa_cons (pv 11) (pa_cons (pv 12) pa_nil)))) (pe_tup (pa_cons pe_int (pa_cons pe_int pa_nil))) (by rfl)) (pss_one (ps_ret pe_bl)) pss_nil)))
      (pss_one (ps_if (pt_cmpR op_ne (pe_cmpR op_lt (pe_callB (call_len_seq_k (K0 := K) (by rfl)) (by rfl) c.f_len PySem.boot_len (pa_cons (pv 11) pa_nil)) (pe_callB (call_len_seq_k (K0 := K) (by rfl)) (by rfl) c.f_len PySem.boot_len (pa_cons (pv 7) pa_nil)) (nomark _)) (pe_cmpR (op_in_seq_k (K0 := K) (by rfl)) (pv 10) (D_weighty_bows.call (hr.mono (by decide)) rfl (pa_cons (pv 5) (pa_cons (pv 6) pa_nil))) (by rfl)) (nomark _)) (pss_one (ps_ret pe_bl)) pss_nil))))) pss_nil)
      (pss_cons (ps_set (i := 13) sc_law.nd rfl (by first | exact Or.inl rfl | exact Or.inr rfl) (D_left_values.call (hr.mono (by decide)) rfl (pa_cons (pv 5) (pa_cons (pe_op (Dm.or_ (K0 := K) (by rfl) D_Kind___or__ c.sf_Kind (hr.mono (by decide))) (pv 6) (Di.make (K0 := K) (by rfl) D_Kind___init__ (hr.mono (by decide)) rfl (pa_cons (D__law_ways_drawn.call (hr.mono (by decide)) rfl (pa_cons (pv 1) pa_nil)) pa_nil))) pa_nil))))
      (pss_one (ps_if (pt_cmpR (op_neNil_k (K0 := K) (by rfl) hu) (pe_lc rfl sc_law.nd (pi_range1 (by rfl) c.f_range (pa_cons (pe_callB (call_len_seq_k (K0 := K) (by rfl)) (by rfl) c.f_len PySem.boot_len (pa_cons (pv 7) pa_nil)) pa_nil)) (blkOk_by (own := [("_law_many", 12)]) (by show blkC ["_law_script", "_law_bag_here", "_law_turn", "_law_bows_here", "_law_ways", "_law_row", "_law_kind", "_law_values", "_law_great", "_law_full", "_law_at_here", "_law_less", "_law_many", "_law_wider", "_law_one_here"] (defScope s_law) _ _ = true; decide +kernel)) (fun _ _ _ _ _ => (pg_name (i := 12) sc_law.nd rfl (by first | exact Or.inl rfl | exact Or.inr rfl))) (fun _ _ _ _ _ => (pts_one (pt_cmpR op_gt (D__law_at.call (hr.mono (by decide)) rfl (pa_cons (pv 13) (pa_cons (pv 12) pa_nil))) (pe_ix (ix_list_k (K0 := K) (by rfl)) (pv 7) (pv 12) (fun _ _ => rfl)) (nomark _)))) (fun _ _ _ _ _ => (pv 12))) (pe_lst pa_nil) (nomark _)) (pss_one (ps_ret pe_bl)) pss_nil)))))))))))
      (pss_one (ps_ret pe_bl)))), ?_⟩
    refine ⟨_, rfl, a0, ns, rfl, hS, hl63, fun p l cs H1 hb1 => ?_⟩
    refine ⟨4, rfl, by decide, by decide, ?_⟩
    refine for_range (lo := 0) (n := 4) (fun i σ H' => (∃ x2 x3 x4 x5 x6 x7 x8 x9 x10 x11 x12 x13 x14, σ = [some (.ref a0), some (.ref p), x2, x3, x4, x5, x6, x7, x8, x9, x10, x11, x12, x13, x14]) ∧ BagAt K p l cs H') ⟨⟨_, _, _, _, _, _, _, _, _, _, _, _, _, rfl⟩, hb1⟩ ?_ fun σ H' _ => Qk _
    rintro i σ H2 hi ⟨⟨x2, x3, x4, x5, x6, x7, x8, x9, x10, x11, x12, x13, x14, rfl⟩, hb2⟩
    -- the row and the kind drawn
    refine ⟨_, rfl, p, l, cs, rfl, hb2, fun r H3 bs b1 b2 b3 b4 b5 hb3 bt3 => ?_⟩
    refine ⟨_, rfl, p, l, cs, rfl, hb3, fun u H4 ws k1 k2 k3 hb4 bt4 => ⟨_, _, rfl, ?_⟩⟩
    have nrp : r ≠ p := hb2.ne b5
    obtain ⟨z1, z2, z3, z4, _⟩ := id hb3
    have r4 := bt4 _ _ b2 nrp
    have t4 := b3.but bt4 z4
    refine ⟨_, rfl, fun R dR hR0 hdR _ => mkRow2 (bs := bs) hR0 hdR ⟨.inl (.inl (.inl r4)), t4.bows b4, by omega⟩ fun H5 hR s5 => ⟨rfl, ?_⟩⟩
    refine ⟨_, rfl, fun X dX hX0 hdX _ => mkKind2 (ws := ws) hX0 hdX (.inl (.inl (s5 _ _ k1))) (by omega) fun H6 hX s6 => ⟨rfl, ?_⟩⟩
    generalize (fun y => decide (y ∈ ws)) = k at hX
    refine ⟨by show 2 ≤ sizeLine; decide, fun t ht => ⟨t, _, rfl, .inl (.inl upd_same), rfl, _, _, rfl, _, _, rfl, rfl, ?_⟩⟩
    have s7 := same_upd (o := .tup [V.ref R, V.ref X]) ht
    have s47 : Same H4 _ := s5.trans (s6.trans s7)
    have hR7 := (hR.same s6).same s7
    have hX7 := hX.same s7
    have t7 := t4.same s47
    have r7 := s47 _ _ r4
    have hb7 := hb4.same s47
    clear hR hX s6 s7 hb2 hb3 hb4 t4 r4
    generalize upd H6 t (.tup [V.ref R, V.ref X]) = H7 at s47 hR7 hX7 t7 r7 hb7 ⊢
    have hsym := gr_sym (k := k) hR7.good
    have lbs : bs.bows.length = bs.length := List.length_map _
    -- left_values and greatest_layers
    refine ⟨_, rfl, _, rfl, R, X, bs, k, rfl, hR7, hX7, by omega, fun V0 H8 xs v1 v2 s8 => ?_⟩
    refine ⟨_, rfl, _, rfl, R, X, bs, k, rfl, hR7.same s8, hX7.same s8, by omega, fun G0 H9 ls g1 g2 lls s9 => ?_⟩
    refine ⟨by show 2 ≤ sizeLine; decide, fun t2 ht2 => ⟨t2, _, rfl, .inl (.inl upd_same), rfl, _, _, rfl, _, _, rfl, rfl, ?_⟩⟩
    have s10 := same_upd (o := .tup [V.ref V0, V.ref G0]) ht2
    have s710 : Same H7 _ := s8.trans (s9.trans s10)
    have v10 := s10 _ _ (s9 _ _ v1)
    have g10 := g1.same s10
    clear s8 s9 s10 v1 g1
    generalize upd H9 t2 (.tup [V.ref V0, V.ref G0]) = H10 at s710 v10 g10 ⊢
    generalize hG : gr bs.bows k = G at v2 g2 hsym
    have lv := v2.len
    -- _law_falls
    refine ⟨_, rfl, _, rfl, r, _, rfl, .inl (.inl (.inl (s710 _ _ r7))), V0, xs, bs.length, by rw [List.length_map]; rfl, v10, v2.falls, by omega, fun H11 s11 => ?_⟩
    refine ⟨_, rfl, iteF ?_⟩
    -- _law_at(values, 1)
    obtain ⟨mg1, mg2, mg3, mg4⟩ := id g2
    obtain ⟨gp, q1, q2, q3⟩ := g10.same s11
    cases ls with
    | nil => exact absurd rfl mg2
    | cons s0 lr =>
    have hs0 := g2.len hsym (List.mem_cons_self (a := s0) (l := lr))
    cases gp with
    | nil => cases q3
    | cons gp0 gpr =>
    have e0 : gp0.2 = nO s0 := by rw [List.map_cons, List.map_cons] at q3; injection q3
    have ho0 : H11 gp0.1 = some (nO s0) := by rw [q2 gp0 (List.mem_cons_self ..), e0]
    have s711 := s710.trans s11
    refine ⟨_, rfl, V0, xs, 1, rfl, s11 _ _ v10, _, rfl, r, _, rfl, .inl (.inl (.inl (s711 _ _ r7))), _, rfl, G0, _, 0, _, rfl, rfl, .inl (.inl q1), atI_nat (j := 0) rfl, gp0.1, _, rfl, .inl (.inl (.inl ho0)), _, _, rfl, rfl, rfl, _, rfl, ?_⟩
    have eat : at0 xs 1 = ((bs.vs.length : Nat) : Int) - (((nv s0).length : Nat) : Int) := by
      rw [v2.at hs0, List.length_map, List.length_map]
    refine iteNI (fun h => absurd eat h) fun _ => ?_
    -- full_layers
    refine ⟨_, rfl, _, rfl, R, X, bs, k, rfl, hR7.same s711, hX7.same s711, by omega, fun L0 H12 fs f1 f2 s12 => ?_⟩
    have s712 := s711.trans s12
    have g12 := (g10.same s11).same s12
    have v12 := s12 _ _ (s11 _ _ v10)
    clear s11 q1 q2 q3 ho0 e0 v10 g10 s711 s710
    obtain ⟨gs, q1, q2, q3⟩ := g12
    obtain ⟨fsO, w1, w2, w3⟩ := f1
    have lgs := os_len q3
    have b1024 : (1024 : Nat) ≤ sizeLine := by decide
    refine ⟨_, rfl, G0, rfl, ⟨_, .inl (.inl q1)⟩, fun D hD => ?_⟩
    refine lc_objL (fun r => r ≠ D) (fun _ h => h) (fun _ => []) (.inl (.inl q1)) (by rw [List.length_map]; omega) hD rfl (fun j x H13 hx s13 _ K1 K0 k1' k0' => ?_) fun H13 qs s13 e1 e2 e3 _ => ?_
    · obtain ⟨pp, y, hpp, hy, rfl, ey⟩ := os_get q3 hx
      have ho : H13 pp.1 = some (nO y) := by rw [s13 _ _ (q2 pp hpp), ey]
      have hym := List.mem_of_getElem? hy
      have hfull := (f2 y).mpr (by rw [hG]; rw [lbs] at *; exact g2.full hsym hym)
      refine ⟨rfl, _, rfl, _, rfl, dL y, fs.map dL, dp_nO ho, .lst (.inl (.inl (s13 _ _ w1))) (dpAll_ls w3 (w2.same s13)), shaped_dL y, shaped_dLs fs, _, rfl, ?_⟩
      refine iteF' (by rw [any_eqv hfull]; rfl) ?_
      refine ⟨_, rfl, pp.1, _, rfl, .inl (.inl (.inl ho)), ?_⟩
      have s713 := s712.trans s13
      refine ⟨_, rfl, _, rfl, R, X, bs, k, rfl, hR7.same s713, t7.same s713, hX7.same s713, by omega, fun ga H14 gx ga1 ga2 s14 => ?_⟩
      rw [hG] at ga2
      refine ⟨ga, gx, rfl, .inl (.inl (.inl ga1)), rfl, _, rfl, ?_⟩
      have hlen := (g2.len hsym hym).unique ga2
      refine iteNI (fun h => absurd (by rw [List.length_map, hlen]) h) fun _ => ?_
      exact k0' _ s14 rfl
    · have s713 := s712.trans s13
      have v13 := s13 _ _ v12
      have qs0 : qs = [] := by cases qs with | nil => rfl | cons => cases e2
      subst qs0
      refine ⟨Nat.zero_le _, fun n1 hn1 => ⟨D, n1, _, rfl, rfl, .inl (.inl ((same_upd hn1) _ _ e1)), .inl (.inl upd_same), _, rfl, iteF ?_⟩⟩
      have s15 := s713.trans (same_upd (o := .lst []) hn1)
      have v15 := (same_upd (o := .lst []) hn1) _ _ v13
      clear s13 e1 e3 s713 v13 v12 q1 q2 w1 w2 s712 f2
      generalize upd H13 n1 (.lst []) = H15 at s15 v15 ⊢
      have hb15 := hb7.same s15
      have r15 := s15 _ _ r7
      refine ⟨_, rfl, Nat.zero_le _, fun n2 hn2 => ⟨r, n2, _, rfl, rfl, .inl (.inl ((same_upd hn2) _ _ r15)), .inl (.inl upd_same), _, rfl, ?_⟩⟩
      have sn2 := same_upd (o := .lst []) hn2
      have s16 := s15.trans sn2
      have v16 := sn2 _ _ v15
      have r16 := sn2 _ _ r15
      clear s15 v15 hb15 r15 sn2
      generalize upd H15 n2 (.lst []) = H16 at s16 v16 r16 ⊢
      have hb16 := hb7.same s16
      have hR16 := hR7.same s16
      have hX16 := hX7.same s16
      by_cases hbs : bs = []
      · refine iteF' (by rw [hbs]; rfl) ?_
        have hbw := hb16
        have hRw := hR16
        have hXw := hX16
        have vw := v16
        refine ⟨_, rfl, _, rfl, _, rfl, p, l, cs, rfl, hbw, fun uw Hx us ux1 ux2 ux3 hbx btx => ?_⟩
        refine fun X2 dX2 hX20 hdX20 _ => mkKind2 (ws := us) hX20 hdX20 (.inl (.inl ux1)) (by omega) fun Hy hX2 sy => ⟨rfl, ?_⟩
        generalize (fun y => decide (y ∈ us)) = k2 at hX2
        have hXy := (KindAt.but hbw btx hXw).same sy
        have hRy := (RowAt.but hbw btx hRw).same sy
        have vy := sy _ _ (ints_but hbw btx vw)
        have hby := hbx.same sy
        obtain ⟨dk1, lk1, ek1, _⟩ := hXy.ex
        obtain ⟨dk2, lk2, ek2, _⟩ := hX2.ex
        refine ⟨⟨X, X2, dk1, dk2, _, _, rfl, rfl, ek1, ek2⟩, X, X2, k, k2, rfl, hXy, hX2, fun X3 Hz hX3 sz => ⟨⟨_, rfl⟩, ?_⟩⟩
        refine ⟨R, X3, bs, _, rfl, hRy.same sz, hX3, by omega, fun W0 Hv ys y1 y2 sv => ?_⟩
        have y2' : LeftOk (gr bs.bows (fun y => k y || k2 y)) bs.length ys := y2
        have hmono : ∀ a b, G a b = true → gr bs.bows (fun y => k y || k2 y) a b = true := fun a b h => gr_wider a b (by rw [hG]; exact h)
        have hbv := (hby.same sz).same sv
        have vv := sv _ _ (sz _ _ vy)
        refine ⟨_, rfl, V0, _, rfl, .inl (.inl (.inl vv)), (xs.length : Int), by rw [List.length_map], by omega, by omega, fun D5 hD5 => ?_⟩
        rw [Int.toNat_natCast]
        refine lc_accR (lo := 0) (n := xs.length) (fun _ => []) (by omega) hD5 rfl (fun j H20 hj s20 _ K1 K0 k1'' k0'' => ?_) fun H20 s20 e20 => ?_
        · refine ⟨rfl, _, rfl, _, rfl, W0, ys, j, by rw [Int.zero_add]; rfl, s20 _ _ y1, _, rfl, _, rfl, V0, _, ((j : Nat) : Int), .int (xs.getD j 0), rfl, by rw [Int.zero_add], .inl (.inl (s20 _ _ vv)), atI_nat (by rw [List.getElem?_map, List.getD_eq_getElem?_getD, List.getElem?_eq_getElem hj]; rfl), _, _, rfl, rfl, _, rfl, ?_⟩
          have hw2 := v2.wider y2' (fun a b _ _ h => hmono a b h) j
          have ex : at0 xs j = xs.getD j 0 := by unfold at0; rw [if_pos hj]
          rw [ex] at hw2
          refine iteP (fun h => absurd h (by omega)) fun _ => ?_
          exact k0'' _ (Same.refl _) rfl
        · refine ⟨Nat.zero_le _, fun n5 hn5 => ⟨D5, n5, _, rfl, rfl, .inl (.inl ((same_upd hn5) _ _ e20)), .inl (.inl upd_same), _, rfl, iteF ?_⟩⟩
          exact ⟨⟨_, _, _, _, _, _, _, _, _, _, _, _, _, rfl⟩, (hbv.same s20).same (same_upd hn5)⟩
      · have hbs0 : 0 < bs.length := List.length_pos_iff.mpr hbs
        refine iteT' (by cases bs with | nil => exact absurd rfl hbs | cons => rfl) ?_
        refine ⟨_, rfl, _, rfl, r, _, rfl, .inl (.inl (.inl r16)), p, l, cs, bs.length, by rw [List.length_map]; rfl, hb16, by omega, by omega, fun d H17 hd hb17 bt17 => ?_⟩
        have hR17 := RowAt.but hb16 bt17 hR16
        have hX17 := KindAt.but hb16 bt17 hX16
        have v17 := ints_but hb16 bt17 v16
        obtain ⟨dr, lr', er, _⟩ := hR17.ex
        refine ⟨_, rfl, R, dr, _, rfl, er, rfl, _, rfl, R, bs, d, rfl, hR17, hd, by omega, fun Y H18 hY s18 => ?_⟩
        have lY : (bs.eraseIdx d).length = bs.length - 1 := by rw [List.length_eraseIdx, if_pos hd]
        refine ⟨_, rfl, Y, X, bs.eraseIdx d, k, rfl, hY, hX17.same s18, by omega, fun L1 H19 zs z1' z2' s19 => ?_⟩
        have eY : Bs.bows (bs.eraseIdx d) = (bs.bows).eraseIdx d := by unfold Bs.bows; rw [List.eraseIdx_eq_take_drop_succ, List.eraseIdx_eq_take_drop_succ, List.map_append, List.map_take, List.map_drop]
        have z2'' : LeftOk (fun i j => G (skip d i) (skip d j)) (bs.length - 1) zs := by
          rw [eY, gr_erase, hG, lY] at z2'
          exact z2'
        obtain ⟨nn, hnn⟩ : ∃ nn, bs.length = nn + 1 := ⟨bs.length - 1, by omega⟩
        have v2' := v2
        rw [hnn] at v2'
        have z3 : LeftOk (fun i j => G (skip d i) (skip d j)) nn zs := by rw [hnn] at z2''; exact z2''
        have lz := z3.len
        have s1719 := s18.trans s19
        have hR19 := hR17.same s1719
        have hX19 := hX17.same s1719
        have v19 := s1719 _ _ v17
        have hb19 := hb17.same s1719
        refine ⟨_, rfl, V0, _, rfl, .inl (.inl (.inl v19)), (xs.length : Int), by rw [List.length_map], by omega, by omega, ?_⟩
        rw [Int.toNat_natCast]
        refine for_range (lo := 0) (n := xs.length) (fun i σ H' => (∃ y2 y3 y4 y8 y9 y12 y13 y14, σ = [some (.ref a0), some (.ref p), y2, y3, y4, some (.ref R), some (.ref X), some (.ref V0), y8, y9, some (.int (d : Nat)), some (.ref L1), y12, y13, y14]) ∧ Same H19 H') ⟨⟨_, _, _, _, _, _, _, _, rfl⟩, Same.refl _⟩ ?_ ?_
        · rintro j σ H' hj ⟨⟨y2, y3, y4, y8, y9, y12, y13, y14, rfl⟩, sm⟩
          refine ⟨_, rfl, _, rfl, V0, xs, j, by rw [Int.zero_add]; rfl, sm _ _ v19, _, rfl, _, rfl, L1, zs, j, by rw [Int.zero_add]; rfl, sm _ _ z1', _, _, rfl, rfl, by show 2 ≤ sizeLine; decide, fun t5 ht5 => ⟨t5, _, rfl, .inr (.inl (.inl upd_same)), rfl, rfl, _, rfl, ?_⟩⟩
          have hz := v2'.less (by omega : d ≤ nn) z3 j
          have ein : inV (V.int (at0 xs j - at0 zs j)) [V.int 0, V.int 1] = true := by
            rcases hz with h | h <;> rw [h] <;> rfl
          refine iteF' (by rw [ein]; rfl) ?_
          exact ⟨⟨_, _, _, _, _, _, _, _, rfl⟩, sm.trans (same_upd ht5)⟩
        · rintro σ H' ⟨⟨y2, y3, y4, y8, y9, y12, y13, y14, rfl⟩, sm⟩
          refine ⟨_, rfl, L1, _, rfl, .inl (.inl (.inl (sm _ _ z1'))), _, rfl, V0, _, rfl, .inl (.inl (.inl (sm _ _ v19))), _, _, rfl, rfl, _, rfl, _, rfl, _, rfl, R, X, bs, k, rfl, hR19.same sm, hX19.same sm, by omega, fun W1 H20 ws1 q5 q6 s20 => ?_⟩
          rw [hG] at q6
          refine ⟨W1, _, rfl, .inl (.inl (.inl q5)), rfl, flat_nv _, rfl, _, rfl, ?_⟩
          have hwt := less_weighty (by omega : d ≤ nn) v2' z3
          have e1 : inV (V.int (d : Nat)) (nv ws1) = decide ((zs.length : Int) < (xs.length : Int)) := by
            rw [inV_nv, Bool.eq_iff_iff, List.contains_iff_mem, q6 d hd, decide_eq_true_eq, hnn, ← hwt]
            omega
          have e2 : (!decide (V.bl (decide ((((zs.map V.int).length : Nat) : Int) < (((xs.map V.int).length : Nat) : Int))) = V.bl (inV (V.int (d : Nat)) (nv ws1)))) = false := by
            rw [e1, List.length_map, List.length_map]
            simp
          refine iteF' e2 ?_
          have hbw := (hb19.same sm).same s20
          have hRw := (hR19.same sm).same s20
          have hXw := (hX19.same sm).same s20
          have vw := s20 _ _ (sm _ _ v19)
          refine ⟨_, rfl, _, rfl, _, rfl, p, l, cs, rfl, hbw, fun uw Hx us ux1 ux2 ux3 hbx btx => ?_⟩
          refine fun X2 dX2 hX20 hdX20 _ => mkKind2 (ws := us) hX20 hdX20 (.inl (.inl ux1)) (by omega) fun Hy hX2 sy => ⟨rfl, ?_⟩
          generalize (fun y => decide (y ∈ us)) = k2 at hX2
          have hXy := (KindAt.but hbw btx hXw).same sy
          have hRy := (RowAt.but hbw btx hRw).same sy
          have vy := sy _ _ (ints_but hbw btx vw)
          have hby := hbx.same sy
          obtain ⟨dk1, lk1, ek1, _⟩ := hXy.ex
          obtain ⟨dk2, lk2, ek2, _⟩ := hX2.ex
          refine ⟨⟨X, X2, dk1, dk2, _, _, rfl, rfl, ek1, ek2⟩, X, X2, k, k2, rfl, hXy, hX2, fun X3 Hz hX3 sz => ⟨⟨_, rfl⟩, ?_⟩⟩
          refine ⟨R, X3, bs, _, rfl, hRy.same sz, hX3, by omega, fun W0 Hv ys y1 y2 sv => ?_⟩
          have y2' : LeftOk (gr bs.bows (fun y => k y || k2 y)) bs.length ys := y2
          have hmono : ∀ a b, G a b = true → gr bs.bows (fun y => k y || k2 y) a b = true := fun a b h => gr_wider a b (by rw [hG]; exact h)
          have hbv := (hby.same sz).same sv
          have vv := sv _ _ (sz _ _ vy)
          refine ⟨_, rfl, V0, _, rfl, .inl (.inl (.inl vv)), (xs.length : Int), by rw [List.length_map], by omega, by omega, fun D5 hD5 => ?_⟩
          rw [Int.toNat_natCast]
          refine lc_accR (lo := 0) (n := xs.length) (fun _ => []) (by omega) hD5 rfl (fun j H20 hj s20 _ K1 K0 k1'' k0'' => ?_) fun H20 s20 e20 => ?_
          · refine ⟨rfl, _, rfl, _, rfl, W0, ys, j, by rw [Int.zero_add]; rfl, s20 _ _ y1, _, rfl, _, rfl, V0, _, ((j : Nat) : Int), .int (xs.getD j 0), rfl, by rw [Int.zero_add], .inl (.inl (s20 _ _ vv)), atI_nat (by rw [List.getElem?_map, List.getD_eq_getElem?_getD, List.getElem?_eq_getElem hj]; rfl), _, _, rfl, rfl, _, rfl, ?_⟩
            have hw2 := v2.wider y2' (fun a b _ _ h => hmono a b h) j
            have ex : at0 xs j = xs.getD j 0 := by unfold at0; rw [if_pos hj]
            rw [ex] at hw2
            refine iteP (fun h => absurd h (by omega)) fun _ => ?_
            exact k0'' _ (Same.refl _) rfl
          · refine ⟨Nat.zero_le _, fun n5 hn5 => ⟨D5, n5, _, rfl, rfl, .inl (.inl ((same_upd hn5) _ _ e20)), .inl (.inl upd_same), _, rfl, iteF ?_⟩⟩
            exact ⟨⟨_, _, _, _, _, _, _, _, _, _, _, _, _, rfl⟩, (hbv.same s20).same (same_upd hn5)⟩
end
end Bw
end
section
set_option Elab.async false
set_option linter.all false
set_option maxRecDepth 100000
set_option maxHeartbeats 4000000
/-! The orders that the papers name. -/
namespace Bw
open PySem
def sets14 : List (List Way) := [[], [.begun], [.ended], [.begun, .ended], [.apart], [.apart, .begun], [.apart, .ended], [.apart, .chained], [.apart, .begun, .chained], [.apart, .chained, .ended], [.apart, .chained, .crossing],
  [.apart, .begun, .chained, .crossing], [.apart, .chained, .crossing, .ended], [.apart, .begun, .chained, .crossing, .ended]]
theorem sets_table : ∀ a b c d e f g : Bool, tightK (kd7 a b c d e f g) = true → nonSame (kd7 a b c d e f g) ∈ sets14 := by decide +kernel
theorem tight_sets (k : Kd) (h : tightK k = true) : nonSame k ∈ sets14 := by
  revert h
  exact forKd (p := fun k => tightK k = true → nonSame k ∈ sets14) sets_table k
/-- one stands ahead of another one -/
def ordD (S : List Way) (x y : Bow) : Bool := S.any fun w => decide (dirOf x y = aheadW w)
def Bw0 (x : Bow) : Prop := x.1 < x.2
theorem dir_before {x y : Bow} (hx : Bw0 x) (hy : Bw0 y) : dirOf x y = .before ↔ x.2 < y.1 := by
  unfold Bw0 at hx hy
  unfold dirOf
  (repeat' split) <;> first | (simp; omega) | (constructor <;> intro h <;> first | cases h | (exfalso; omega) | omega | rfl)
theorem dir_meets {x y : Bow} (hx : Bw0 x) (hy : Bw0 y) : dirOf x y = .meets ↔ x.2 = y.1 := by
  unfold Bw0 at hx hy
  unfold dirOf
  (repeat' split) <;> first | (simp; omega) | (constructor <;> intro h <;> first | cases h | (exfalso; omega) | omega | rfl)
theorem dir_starts {x y : Bow} (hx : Bw0 x) (hy : Bw0 y) : dirOf x y = .starts ↔ x.1 = y.1 ∧ x.2 < y.2 := by
  unfold Bw0 at hx hy
  unfold dirOf
  (repeat' split) <;> first | (simp; omega) | (constructor <;> intro h <;> first | cases h | (exfalso; omega) | omega | rfl)
theorem dir_crosses {x y : Bow} (hx : Bw0 x) (hy : Bw0 y) : dirOf x y = .crosses ↔ x.1 < y.1 ∧ y.1 < x.2 ∧ x.2 < y.2 := by
  unfold Bw0 at hx hy
  unfold dirOf
  (repeat' split) <;> first | (simp; omega) | (constructor <;> intro h <;> first | cases h | (exfalso; omega) | omega | rfl)
theorem dir_finished {x y : Bow} (hx : Bw0 x) (hy : Bw0 y) : dirOf x y = .finished ↔ x.1 < y.1 ∧ x.2 = y.2 := by
  unfold Bw0 at hx hy
  unfold dirOf
  (repeat' split) <;> first | (simp; omega) | (constructor <;> intro h <;> first | cases h | (exfalso; omega) | omega | rfl)
theorem dir_same {x y : Bow} (hx : Bw0 x) (hy : Bw0 y) : dirOf x y = .same ↔ x = y := by
  unfold Bw0 at hx hy
  rw [Prod.ext_iff]
  unfold dirOf
  (repeat' split) <;> first | (simp; omega) | (constructor <;> intro h <;> first | cases h | (exfalso; omega) | omega | rfl)
theorem ord_trans {S : List Way} (hS : S ∈ sets14) (h2 : S ≠ [.begun, .ended]) {x y z : Bow} (hx : Bw0 x) (hy : Bw0 y) (hz : Bw0 z) (h : ordD S x y = true) (h' : ordD S y z = true) : ordD S x z = true := by
  simp only [sets14, List.mem_cons, List.not_mem_nil, or_false] at hS
  rcases hS with rfl | rfl | rfl | rfl | rfl | rfl | rfl | rfl | rfl | rfl | rfl | rfl | rfl | rfl <;>
    simp only [ordD, List.any_cons, List.any_nil, Bool.or_false, Bool.or_eq_true, decide_eq_true_eq, aheadW, dir_before hx hy, dir_before hy hz, dir_before hx hz, dir_meets hx hy, dir_meets hy hz, dir_meets hx hz, dir_starts hx hy, dir_starts hy hz, dir_starts hx hz, dir_crosses hx hy, dir_crosses hy hz, dir_crosses hx hz, dir_finished hx hy, dir_finished hy hz, dir_finished hx hz] at h h' ⊢ <;>
    unfold Bw0 at hx hy hz <;> first | exact absurd rfl h2 | omega | cases h
theorem ord_irr {S : List Way} (hS : ∀ w ∈ S, w ≠ .same ∧ w ≠ .within) {x : Bow} (hx : Bw0 x) : ordD S x x = false := by
  unfold ordD
  rw [List.any_eq_false]
  intro w hw h
  have e : dirOf x x = .same := (dir_same hx hx).mpr rfl
  have h := of_decide_eq_true h
  rw [e] at h
  obtain ⟨a, b⟩ := hS w hw
  cases w <;> first | exact absurd rfl a | exact absurd rfl b | cases h
/-- comparable: by the way -/
theorem ord_way {S : List Way} (hS : ∀ w ∈ S, w ≠ .same ∧ w ≠ .within) {x y : Bow} (hx : Bw0 x) (hy : Bw0 y) : (ordD S x y || ordD S y x) = decide (wayOf x y ∈ S) := by
  rw [Bool.eq_iff_iff, Bool.or_eq_true, decide_eq_true_eq]
  have hxy : ∀ w, w ≠ .same → w ≠ .within → ((dirOf x y = aheadW w ∨ dirOf y x = aheadW w) ↔ wayOf x y = w) := by
    intro w h1 h2
    cases w
    case same => exact absurd rfl h1
    case within => exact absurd rfl h2
    all_goals
      simp only [aheadW, dir_before hx hy, dir_before hy hx, dir_meets hx hy, dir_meets hy hx, dir_starts hx hy, dir_starts hy hx, dir_crosses hx hy, dir_crosses hy hx, dir_finished hx hy, dir_finished hy hx]
      unfold Bw0 at hx hy
      unfold wayOf dirOf
      (repeat' split) <;> simp [wayD] <;> omega
  unfold ordD
  rw [List.any_eq_true, List.any_eq_true]
  constructor
  · rintro (⟨w, hw, h⟩ | ⟨w, hw, h⟩)
    · obtain ⟨a, b⟩ := hS w hw
      rw [(hxy w a b).mp (.inl (of_decide_eq_true h))]; exact hw
    · obtain ⟨a, b⟩ := hS w hw
      rw [(hxy w a b).mp (.inr (of_decide_eq_true h))]; exact hw
  · intro hw
    obtain ⟨a, b⟩ := hS _ hw
    rcases (hxy _ a b).mpr rfl with h | h
    · exact .inl ⟨_, hw, decide_eq_true h⟩
    · exact .inr ⟨_, hw, decide_eq_true h⟩
end Bw
end
section
set_option linter.all false
set_option maxRecDepth 100000
set_option maxHeartbeats 4000000
/-! Crowds of tight kinds, in plain terms. -/
namespace Bw
open PySem
theorem way_same {x y : Bow} (hx : Bw0 x) (hy : Bw0 y) : wayOf x y = .same ↔ x = y := by
  rw [← dir_same hx hy]
  unfold wayOf
  generalize dirOf x y = d
  cases d <;> simp [wayD]
theorem way_ends {x y : Bow} (hx : Bw0 x) (hy : Bw0 y) (ne : x ≠ y) : (wayOf x y = .begun ∨ wayOf x y = .ended) ↔ (x.1 = y.1 ∨ x.2 = y.2) := by
  have ne' : ¬ (x.1 = y.1 ∧ x.2 = y.2) := fun h => ne (Prod.ext h.1 h.2)
  unfold Bw0 at hx hy
  unfold wayOf dirOf
  (repeat' split) <;> simp [wayD] <;> omega
theorem mem_nonSame {k : Kd} {y : Way} : y ∈ nonSame k ↔ oneK k y = true ∧ y ≠ .same := by
  unfold nonSame
  rw [List.mem_filter, mem_waysOf]
  simp
section
variable {S : List Way} {ds : List Dir} {sm : Bool} {bs : List Bow}
theorem ahead_eq (hd : ∀ d, d ∈ ds ↔ ∃ y ∈ S, d = aheadW y) {x y : Bow} (hx : Bw0 x) (hy : Bw0 y) (i j : Nat) : aheadB ds sm x y i j = if x = y then sm && decide (i < j) else ordD S x y := by
  unfold aheadB
  by_cases e : x = y
  · rw [if_pos e, if_pos ((dir_same hx hy).mpr e)]
  · rw [if_neg e, if_neg fun h => e ((dir_same hx hy).mp h)]
    unfold ordD
    rw [Bool.eq_iff_iff, decide_eq_true_eq, List.any_eq_true, hd]
    exact ⟨fun ⟨z, h1, h2⟩ => ⟨z, h1, decide_eq_true h2⟩, fun ⟨z, h1, h2⟩ => ⟨z, h1, of_decide_eq_true h2⟩⟩
theorem ahead_strict (hS : S ∈ sets14) (h2 : S ≠ [.begun, .ended]) (hn : ∀ w ∈ S, w ≠ .same ∧ w ≠ .within) (hd : ∀ d, d ∈ ds ↔ ∃ y ∈ S, d = aheadW y) (hb : ∀ i, i < bs.length → Bw0 (bat bs i)) : Strict (aheadR ds sm bs) bs.length := by
  refine ⟨fun i hi => ?_, fun i j k hi hj hk a b => ?_⟩
  · show aheadB ds sm (bat bs i) (bat bs i) i i = false
    rw [ahead_eq hd (hb i hi) (hb i hi), if_pos rfl, decide_eq_false (Nat.lt_irrefl i), Bool.and_false]
  · have a : aheadB ds sm (bat bs i) (bat bs j) i j = true := a
    have b : aheadB ds sm (bat bs j) (bat bs k) j k = true := b
    show aheadB ds sm (bat bs i) (bat bs k) i k = true
    have x1 := hb i hi
    have x2 := hb j hj
    have x3 := hb k hk
    rw [ahead_eq hd x1 x2] at a
    rw [ahead_eq hd x2 x3] at b
    rw [ahead_eq hd x1 x3]
    by_cases e1 : bat bs i = bat bs j
    · rw [if_pos e1] at a
      rw [e1]
      by_cases e2 : bat bs j = bat bs k
      · rw [if_pos e2] at b ⊢
        rw [Bool.and_eq_true, decide_eq_true_eq] at a b ⊢
        exact ⟨a.1, by omega⟩
      · rw [if_neg e2] at b ⊢
        exact b
    · rw [if_neg e1] at a
      by_cases e2 : bat bs j = bat bs k
      · rw [← e2, if_neg e1]; exact a
      · rw [if_neg e2] at b
        have t := ord_trans hS h2 x1 x2 x3 a b
        by_cases e3 : bat bs i = bat bs k
        · rw [← e3, ord_irr hn x1] at t; cases t
        · rw [if_neg e3]; exact t
theorem ahead_or (hn : ∀ w ∈ S, w ≠ .same ∧ w ≠ .within) (hd : ∀ d, d ∈ ds ↔ ∃ y ∈ S, d = aheadW y) {x y : Bow} (hx : Bw0 x) (hy : Bw0 y) {i j : Nat} (ne : i ≠ j) :
    (aheadB ds sm x y i j || aheadB ds sm y x j i) = if x = y then sm else decide (wayOf x y ∈ S) := by
  rw [ahead_eq hd hx hy, ahead_eq hd hy hx]
  by_cases e : x = y
  · rw [if_pos e, if_pos e.symm, if_pos e, ← Bool.and_or_distrib_left]
    have : (decide (i < j) || decide (j < i)) = true := by
      rw [Bool.or_eq_true, decide_eq_true_eq, decide_eq_true_eq]; omega
    rw [this, Bool.and_true]
  · rw [if_neg e, if_neg (Ne.symm e), if_neg e, ord_way hn hx hy]
end
section
variable {k : Kd} {bs : List Bow} {ds : List Dir}
theorem gr_not {i j : Nat} (ne : i ≠ j) : gr bs (fun y => !k y) i j = !k (wayOf (bat bs i) (bat bs j)) := by
  unfold gr
  rw [decide_eq_true ne, Bool.true_and]
theorem way_one {x y : Bow} (hx : Bw0 x) (hy : Bw0 y) : (if x = y then oneK k .same else decide (wayOf x y ∈ nonSame k)) = oneK k (wayOf x y) := by
  by_cases e : x = y
  · rw [if_pos e, (way_same hx hy).mpr e]
  · rw [if_neg e, Bool.eq_iff_iff, decide_eq_true_eq, mem_nonSame]
    exact ⟨fun h => h.1, fun h => ⟨h, fun q => e ((way_same hx hy).mp q)⟩⟩
theorem crowd_chains (hw : k .within = false) (hd : ∀ d, d ∈ ds ↔ ∃ y ∈ nonSame k, d = aheadW y) (hb : ∀ i, i < bs.length → Bw0 (bat bs i)) (i j : Nat) (hi : i < bs.length) (hj : j < bs.length) (ne : i ≠ j) :
    gr bs (fun y => !k y) i j = !(aheadR ds (k .same) bs i j || aheadR ds (k .same) bs j i) := by
  rw [gr_not ne]
  have h := ahead_or (S := nonSame k) (sm := k .same) (fun w hw => nonSame_ok hw) hd (hb i hi) (hb j hj) ne
  have o : oneK k = k := by unfold oneK; rw [if_neg (by rw [hw]; exact Bool.false_ne_true)]
  have h2 := way_one (k := k) (hb i hi) (hb j hj)
  rw [o] at h2
  rw [h2] at h
  exact congrArg _ h.symm
theorem crowd_levels (hw : k .within = true) (hd : ∀ d, d ∈ ds ↔ ∃ y ∈ nonSame k, d = aheadW y) (hb : ∀ i, i < bs.length → Bw0 (bat bs i)) (i j : Nat) (hi : i < bs.length) (hj : j < bs.length) (ne : i ≠ j) :
    gr bs (fun y => !k y) i j = (aheadR ds (!k .same) bs i j || aheadR ds (!k .same) bs j i) := by
  rw [gr_not ne]
  have h := ahead_or (S := nonSame k) (sm := !k .same) (fun w hw => nonSame_ok hw) hd (hb i hi) (hb j hj) ne
  have o : oneK k = fun y => !k y := by unfold oneK; rw [if_pos hw]
  have h2 := way_one (k := k) (hb i hi) (hb j hj)
  rw [o] at h2
  rw [h2] at h
  exact h.symm
theorem crowd_kept (hw : k .within = false) (hs : nonSame k = [.begun, .ended]) (hb : ∀ i, i < bs.length → Bw0 (bat bs i)) (i j : Nat) (hi : i < bs.length) (hj : j < bs.length) (ne : i ≠ j) :
    gr bs (fun y => !k y) i j = true ↔ OkE (k .same) (bat bs i) (bat bs j) := by
  rw [gr_not ne]
  have o : oneK k = k := by unfold oneK; rw [if_neg (by rw [hw]; exact Bool.false_ne_true)]
  have h2 := way_one (k := k) (hb i hi) (hb j hj)
  rw [o, hs] at h2
  rw [← h2]
  unfold OkE
  by_cases e : bat bs i = bat bs j
  · rw [if_pos e, e]
    simp
  · rw [if_neg e, Bool.not_eq_true', decide_eq_false_iff_not]
    have h3 := way_ends (hb i hi) (hb j hj) e
    simp only [List.mem_cons, List.not_mem_nil, or_false]
    rw [h3]
    exact ⟨fun h => .inl ⟨fun z => h (.inl z), fun z => h (.inr z)⟩, fun h => by
      rcases h with h | h
      · rintro (z | z)
        · exact h.1 z
        · exact h.2 z
      · exact absurd h.1 e⟩
theorem crowd_lacked (hw : k .within = true) (hs : nonSame k = [.begun, .ended]) (hb : ∀ i, i < bs.length → Bw0 (bat bs i)) (i j : Nat) (hi : i < bs.length) (hj : j < bs.length) (ne : i ≠ j) :
    gr bs (fun y => !k y) i j = true ↔ OkC (k .same) (bat bs i) (bat bs j) := by
  rw [gr_not ne]
  have o : oneK k = fun y => !k y := by unfold oneK; rw [if_pos hw]
  have h2 := way_one (k := k) (hb i hi) (hb j hj)
  rw [o, hs] at h2
  have h2 : (if bat bs i = bat bs j then !k .same else decide (wayOf (bat bs i) (bat bs j) ∈ [Way.begun, Way.ended])) = !k (wayOf (bat bs i) (bat bs j)) := h2
  rw [← h2]
  unfold OkC
  by_cases e : bat bs i = bat bs j
  · rw [if_pos e, e]
    simp
  · rw [if_neg e, decide_eq_true_eq]
    have h3 := way_ends (hb i hi) (hb j hj) e
    simp only [List.mem_cons, List.not_mem_nil, or_false]
    rw [h3]
    exact ⟨fun h => .inl ⟨e, h⟩, fun h => by
      rcases h with h | h
      · exact h.2
      · exact absurd h.1 e⟩
end
end Bw
end
section
set_option Elab.async false
set_option linter.all false
set_option maxRecDepth 100000
set_option maxHeartbeats 4000000
namespace Bw
open PySem PySem.Spec PyProof.Rows L2
section
variable {w : World} {K : PySem.W.Frag} {mg : Str → Option Value} {base : Heap}
theorem RowAt.bw0 {H : Hp} {p : Addr} {bs : Bs} (h : RowAt K H p bs) : ∀ i, i < bs.bows.length → Bw0 (bat bs.bows i) := fun i hi => by
  obtain ⟨b, hb, e⟩ := List.mem_map.mp (bat_mem hi)
  have := (h.ok b hb).2.2.2
  rw [e] at this
  exact this
def spCrowd (K : PySem.W.Frag) : Sp := fun vs H Q _ => ∃ (p q : Addr) (bs : Bs) (k : Kd), vs = [.ref p, .ref q] ∧ RowAt K H p bs ∧ Trk H bs ∧ KindAt K H q k ∧ tightK k = true ∧ bs.length ≤ 9 ∧
  ∀ a H' xs, H' a = some (.lst xs) → IsMost (gr bs.bows fun y => !k y) bs.length 1 xs.length → Same H H' → Q (.ref a) H'
theorem sc_crowd_of : FnScope ["row", "kind", "word", "told", "same"] ["row", "kind"] (defScope s_crowd_of) := ⟨rfl, rfl, rfl, by decide +kernel, rfl, by decide +kernel, by decide +kernel⟩
theorem ok_crowd_of (c : Cy w K mg base) : Dn PG w K mg base "crowd_of" 16 ["row", "kind"] (spCrowd K) := by
  obtain ⟨fd, F⟩ := c.fd_crowd_of
  have D_need_paper := ok_need_paper c
  have D_Kind___contains__ := ok_Kind_contains c
  have D_unordered := ok_unordered c
  have D_long_chain := ok_long_chain c
  have D_unlike_ends := ok_unlike_ends c
  have D_at_one_end := ok_at_one_end c
  refine ⟨walkD F sc_crowd_of (fun vs H Q E h => ?_) (fun cdv A outer s H vs Q E hr h => ?_) fun _ _ _ _ _ _ us hl => match us, hl with | [_, _], _ => rfl, c.m_crowd_of, F.kp⟩
  · obtain ⟨a, b, _, _, rfl, _⟩ := h
    rfl
  · obtain ⟨p, q, bs, k, rfl, hR, hT, hk, ht, hlen, Qk⟩ := h
    have hu := hu_of hr
    have lbw : bs.bows.length = bs.length := List.length_map ..
    have hb0 := hR.bw0
    refine ⟨_, (pss_cons (ps_asg (D_need_paper.call (hr.mono (by decide)) rfl (pa_cons (pv 1) pa_nil)) (pg_tup_k (K0 := K) (n := 2) (by rfl) (by rfl) (pgs_cons (pg_name (i := 2) sc_crowd_of.nd rfl (by first | exact Or.inl rfl | exact Or.inr rfl)) (pgs_cons (pg_name (i := 3) sc_crowd_of.nd rfl (by first | exact Or.inl rfl | exact Or.inr rfl)) pgs_nil))))
      (pss_cons (ps_set (i := 4) sc_crowd_of.nd rfl (by first | exact Or.inl rfl | exact Or.inr rfl) (pe_cmpR (Dm.in_ (K0 := K) (by rfl) D_Kind___contains__ (hr.mono (by decide))) pe_str (pv 1) (by rfl)))
      (pss_cons (ps_if (pt_cmpR op_eq (pv 2) pe_str (nomark _)) (pss_one (ps_ret (D_unordered.callK (hr.mono (by decide)) rfl (pa_cons (pv 0) (pa_cons (pv 3) pa_nil)) (pk_cons (pv 4) pk_nil)))) pss_nil)
      (pss_cons (ps_if (pt_cmpR op_eq (pv 2) pe_str (nomark _)) (pss_one (ps_ret (pe_callB (cr_sortedI_k (K0 := K) (by rfl)) (by rfl) c.f_sorted (by decide +kernel) (pa_cons (D_long_chain.callK (hr.mono (by decide)) rfl (pa_cons (pv 0) (pa_cons (pv 3) pa_nil)) (pk_cons (pe_not (pv 4)) pk_nil)) pa_nil)))) pss_nil)
      (pss_one (ps_ret (pe_ifExp (pt_cmpR (op_eqD_k (K0 := K) (by rfl) hr.units) (pv 3) pe_str (nomark _)) (D_unlike_ends.callK (hr.mono (by decide)) rfl (pa_cons (pv 0) pa_nil) (pk_cons (pv 4) pk_nil)) (D_at_one_end.call (hr.mono (by decide)) rfl (pa_cons (pv 0) (pa_cons (pv 4) pa_nil)))))))))), ?_⟩
    refine ⟨_, rfl, q, k, rfl, hk, ht, fun t H1 s1 => ⟨fun hS eT => ?_, fun hS L ds eL hd eT => ?_⟩⟩
    · obtain ⟨dk, lk, hk1, hk2⟩ := (hk.same s1).ex
      refine ⟨t, _, rfl, .inl (.inl eT), rfl, _, _, rfl, _, _, rfl, rfl, ?_⟩
      refine ⟨_, rfl, ⟨q, dk, _, rfl, hk1⟩, q, k, .same, rfl, hk.same s1, _, rfl, ?_⟩
      refine ⟨_, rfl, rfl, _, rfl, iteF' (by decide) ?_⟩
      refine ⟨_, rfl, rfl, _, rfl, iteF' (by decide) ?_⟩
      refine ⟨_, rfl, _, _, .str _, .str _, ?_, ?_, _, rfl, ?_⟩
      · cases k .within <;> decide +kernel
      · decide +kernel
      · cases hw : k .within with
        | true =>
          refine iteF' (by decide +kernel) ?_
          refine ⟨_, rfl, _, rfl, p, bs, k .same, rfl, hR.same s1, hT.same s1, hlen, fun r H2 ys er hm s2 => ?_⟩
          exact Qk r H2 ys er (hm _ fun i j hi hj ne => crowd_lacked hw hS hb0 i j (by omega) (by omega) ne) (s1.trans s2)
        | false =>
          refine iteT' (by decide +kernel) ?_
          refine ⟨_, rfl, _, rfl, rfl, rfl, p, bs, k .same, rfl, hR.same s1, hT.same s1, by omega, fun r H2 ys er hm s2 => ?_⟩
          exact Qk r H2 ys er (hm _ fun i j hi hj ne => crowd_kept hw hS hb0 i j (by omega) (by omega) ne) (s1.trans s2)
    · obtain ⟨dk, lk, hk1, hk2⟩ := (hk.same s1).ex
      have hSt := fun sm => ahead_strict (S := nonSame k) (ds := ds) (sm := sm) (tight_sets k ht) hS (fun w hw => nonSame_ok hw) hd hb0
      rw [lbw] at hSt
      refine ⟨t, _, rfl, .inl (.inl eT), rfl, _, _, rfl, _, _, rfl, rfl, ?_⟩
      refine ⟨_, rfl, ⟨q, dk, _, rfl, hk1⟩, q, k, .same, rfl, hk.same s1, _, rfl, ?_⟩
      cases hw : k .within with
      | false =>
        refine ⟨_, rfl, rfl, _, rfl, iteT' (by decide) ?_⟩
        refine ⟨_, rfl, _, rfl, _, rfl, rfl, rfl, p, L, bs, ds, k .same, rfl, hR.same s1, eL, hlen, hSt _, fun r H2 xs er hm s2 => ?_⟩
        refine Qk r H2 _ er ?_ (s1.trans s2)
        rw [List.length_map]
        exact hm _ fun i j hi hj ne => crowd_chains hw hd hb0 i j (by omega) (by omega) ne
      | true =>
        refine ⟨_, rfl, rfl, _, rfl, iteF' (by decide) ?_⟩
        refine ⟨_, rfl, rfl, _, rfl, iteT' (by decide) ?_⟩
        refine ⟨_, rfl, _, rfl, _, rfl, k .same, rfl, rfl, rfl, p, L, bs, ds, !k .same, rfl, hR.same s1, eL, by omega, hSt _, fun r H2 xs hC er s2 => ?_⟩
        refine ⟨r, xs.map fun n : Nat => (n : Int), rfl, .inl (.inl (by rw [er, List.map_map]; rfl)), fun ns z pm _ hz => ?_⟩
        refine Qk z _ _ upd_same ?_ ((s1.trans s2).trans (same_upd hz))
        rw [List.length_map, pm.length_eq, List.length_map]
        exact hC.most (hSt _) fun i j hi hj ne => crowd_levels hw hd hb0 i j (by omega) (by omega) ne
theorem sc_greatest_layer : FnScope ["row", "kind"] ["row", "kind"] (defScope s_greatest_layer) := ⟨rfl, rfl, rfl, by decide +kernel, rfl, by decide +kernel, by decide +kernel⟩
theorem ok_greatest_layer (c : Cy w K mg base) : Dn PG w K mg base "greatest_layer" 40 ["row", "kind"] (spGL K) := by
  obtain ⟨fd, F⟩ := c.fd_greatest_layer
  have D_is_tight := ok_is_tight c
  have D_crowd_of := ok_crowd_of c
  have D_Kind___invert__ := ok_Kind_invert c
  have D_greatest_layers := ok_greatest_layers c
  refine ⟨walkD F sc_greatest_layer (fun vs H Q E h => ?_) (fun cdv A outer s H vs Q E hr h => ?_) fun _ _ _ _ _ _ us hl => match us, hl with | [_, _], _ => rfl, c.m_greatest_layer, F.kp⟩
  · obtain ⟨a, b, _, _, rfl, _⟩ := h
    rfl
  · obtain ⟨p, q, bs, k, rfl, hR, hT, hk, hlen, Qk⟩ := h
    have hu := hu_of hr
    refine ⟨_, (pss_cons (ps_if (pt_val (D_is_tight.call (hr.mono (by decide)) rfl (pa_cons (pv 1) pa_nil))) (pss_one (ps_ret (D_crowd_of.call (hr.mono (by decide)) rfl (pa_cons (pv 0) (pa_cons (pe_un (Dm.inv (K0 := K) (by rfl) D_Kind___invert__ (hr.mono (by decide))) (pv 1)) pa_nil))))) pss_nil)
      (pss_one (ps_ret (pe_ix (ix_list_k (K0 := K) (by rfl)) (D_greatest_layers.call (hr.mono (by decide)) rfl (pa_cons (pv 0) (pa_cons (pv 1) pa_nil))) pe_int (fun _ _ => rfl))))), ?_⟩
    refine ⟨_, rfl, q, k, rfl, hk, fun H1 s1 => ⟨tightK k, rfl, ?_⟩⟩
    have hk1 := hk.same s1
    refine iteB (fun ht => ?_) (fun ht => ?_)
    · obtain ⟨dk, lk, e1, e2⟩ := hk1.ex
      refine ⟨_, rfl, _, rfl, ⟨q, dk, _, rfl, e1⟩, q, k, rfl, hk1, fun x H2 hX s2 => ?_⟩
      refine ⟨p, x, bs, _, rfl, (hR.same s1).same s2, (hT.same s1).same s2, hX, tight_inv k ht, hlen, fun a H3 xs ea hm s3 => ?_⟩
      refine Qk a H3 xs ea ?_ ((s1.trans s2).trans s3)
      have e : (fun y => !(fun y => !k y) y) = k := by funext y; exact Bool.not_not _
      rw [e] at hm
      exact hm
    · refine ⟨_, rfl, _, rfl, p, q, bs, k, rfl, hR.same s1, hk1, by omega, fun a H2 ls hL hG ll s2 => ?_⟩
      obtain ⟨ps, p1, p2, p3⟩ := hL
      have hne : ls ≠ [] := by obtain ⟨m, h, _⟩ := hG; exact h
      match ps, ls, p3, p1, p2, hG, hne with
      | [], [], _, _, _, _, hne => exact absurd rfl hne
      | [], _ :: _, h, _, _, _, _ => cases h
      | z :: ps, [], h, _, _, _, _ => cases h
      | z :: ps, l :: ls, p3, p1, p2, hG, _ =>
        rw [List.map_cons, List.map_cons] at p3
        injection p3 with h1 _
        refine ⟨a, _, 0, _, rfl, rfl, .inl (.inl p1), atI_nat (j := 0) rfl, ?_⟩
        refine Qk z.1 H2 (nv l) (by rw [p2 z (List.mem_cons_self ..), h1]) ?_ (s1.trans s2)
        rw [List.length_map]
        exact hG.len (gr_sym (k := k) hR.good) (List.mem_cons_self ..)
end
end Bw
end
set_option linter.all false
set_option maxRecDepth 100000
set_option maxHeartbeats 0
namespace Bw
open PySem PySem.Spec PyProof.Rows L2
theorem room41 : Room 41 callerA := ⟨rfl, by decide, by decide⟩
theorem law_ok : LawOk 41 := by
  intro w K mg fa0 h base _ _ _ sa hb hn fd e F
  subst e
  have c : Cy w K mg base := ⟨sa, hb, hn⟩
  have F' : FunD K d_law.name d_law.qual (defArgs s_law) (defBody s_law) (defScope s_law) [] (d_law.kws K) (He.fAd K d_law.at_) fd := F
  have k := ok_law c (ok_greatest_layer c) F'
  exact k
theorem said : (PySem.Challenge.rw_bowkinds_k68_whole_leaving_and_greatest).wellSaid = true := by
  delta PySem.W.OpenLaw.wellSaid
  with_reducible repeat' refine andT ?_ ?_
  all_goals first | with_reducible exact Bw.e9 | decide +kernel
end Bw
theorem PySem.Challenge.cw_bowkinds_k68_whole_leaving_and_greatest_holds : PySem.Challenge.rw_bowkinds_k68_whole_leaving_and_greatest.Holds := by
  exact And.intro Bw.said (Bw.holds_of Bw.room41 Bw.law_ok)
