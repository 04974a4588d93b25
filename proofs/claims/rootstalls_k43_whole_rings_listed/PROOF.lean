import PyProof.Rows.All
import Wide.All
import OpenK.AllK
import Wide.FinOn
import PyProof.InstEq
import HandS.ForMost
import HandS.Exc
import HandS.IsInst
import HandS.TupAny
import HandS.Wide
import HandS.OwnEq
import HandS.Evl
import HandS.Zip
import HandS.Walk
import HandS.Flow
import KE.SortData
import KE.DataMinMax
import KE.KDictKeyed
import PyProof.ReprRoads
import HandS.SortInts
import KE.KRevSl
import KE.GoesMore
import HandS.Style
import HandS.More
import HandS.Codes
import HandS.ExcInit
import HandS.ExcField
import HandS.TryOnly
import HandS.WordsExc
import HandS.SetFor
import PySem.Challenge.RW_rootstalls_k43_whole_rings_listed
set_option Elab.async false
set_option linter.all false
set_option maxRecDepth 100000
set_option maxHeartbeats 4000000
/-! k43, part R0: rules for operators of one's own class. -/
namespace K43
open PySem PySem.Spec PyProof.Rows L2

section
variable {X : Cx} {CX : CXT} {n : Nat} {C f : Addr} {fd : FuncData} {ps : List Str} {sp : Sp} {E : XK}

/-- the value handed back is not NotImplemented -/
theorem cmpback {P : Value → Shared → Prop} {z : V} {v : Value} {s' : Shared} (r : RelV z v) (h : P v s') : PySem.W.CmpBack P v s' := by
  cases z with
  | non => cases r; exact h
  | bl b => cases r; exact h
  | int i => obtain ⟨t, rfl⟩ := r; exact h
  | str x => obtain ⟨t, rfl⟩ := r; exact h
  | byt b => obtain ⟨t, rfl⟩ := r; exact h
  | flt b => obtain ⟨t, rfl⟩ := r; exact h
  | ref a => cases r; exact h
  | ty m => cases r; exact h

/-- x op y, both instances of the class at C whose def for op is at f -/
def rOwnB (C : Addr) (sp : Sp) (E : XK) : R2 := fun x y H Q => ∃ a dx fs b dy gs, x = .ref a ∧ y = .ref b ∧ H a = some (.ins C dx fs) ∧ H b = some (.ins C dy gs) ∧ sp [x, y] H Q E
theorem op_binOwn {op : Operator} (hc : PySem.W.selfFirst X.K C = true) (hs : PySem.W.findIn X.K (.ref C) (PySem.dunder op.info.2) = some (some (.ref f))) (hf : PySem.W.isFn X.K (.ref f) = true)
    (F : FnOk X.prog X.w X.K X.mg X.base CX n f fd ps sp) (hr : Room n X.A) (hb : Binds X.K fd ps []) (hx : Passes CX X E) : OpR X (binaryOp op) (rOwnB C sp E) := by
  intro pins s σ H x y v u Q I rx ry h
  obtain ⟨a, dx, fs, b, dy, gs, rfl, rfl, ha, hb', q⟩ := h
  cases (show v = Value.ref a from rx)
  cases (show u = Value.ref b from ry)
  obtain ⟨mA, J, _⟩ := ins_get I.hok ha
  obtain ⟨mB, J', _⟩ := ins_get I.hok hb'
  obtain ⟨od, J, _⟩ := J.look
  obtain ⟨od', J', _⟩ := J'.look
  obtain ⟨m, hF⟩ := I.fr
  refine PySem.W.binop_K hF I.ok.mod.kin J J'.type hc hs hf ?_
  refine wpAny_mono (run_fn (us := [.ref a, .ref b]) (vs := [.ref a, .ref b]) (dvs := []) (ds := []) F hr hb .nil hx I (.cons rfl (.cons rfl .nil)) q) (fun w s' z => ?_) fun _ _ x => x
  obtain ⟨z', H', I', rz, qz⟩ := z
  exact cmpback rz ⟨z', H', I', rz, qz⟩
theorem op_eqOwn (hs : PySem.W.findIn X.K (.ref C) "__eq__" = some (some (.ref f))) (hf : PySem.W.isFn X.K (.ref f) = true)
    (F : FnOk X.prog X.w X.K X.mg X.base CX n f fd ps sp) (hr : Room n X.A) (hb : Binds X.K fd ps []) (hx : Passes CX X E) : OpR X (compareOp .Eq) (rOwnB C sp E) := by
  intro pins s σ H x y v u Q I rx ry h
  obtain ⟨a, dx, fs, b, dy, gs, rfl, rfl, ha, hb', q⟩ := h
  cases (show v = Value.ref a from rx)
  cases (show u = Value.ref b from ry)
  obtain ⟨mA, J, _⟩ := ins_get I.hok ha
  obtain ⟨mB, J', _⟩ := ins_get I.hok hb'
  obtain ⟨od, J, _⟩ := J.look
  obtain ⟨od', J', _⟩ := J'.look
  obtain ⟨m, hF⟩ := I.fr
  show wpAny _ _ (richCompare .Eq _ _) _ _ _
  refine PySem.W.cmp_K (op := .Eq) (tb := .ref C) hr.units0 hF I.ok.mod.kin J J'.type (by simp [PySem.W.notFirst]) hs hf ?_
  refine wpAny_mono (run_fn (us := [.ref a, .ref b]) (vs := [.ref a, .ref b]) (dvs := []) (ds := []) F hr hb .nil hx I (.cons rfl (.cons rfl .nil)) q) (fun w s' z => ?_) fun _ _ x => x
  obtain ⟨z', H', I', rz, qz⟩ := z
  exact cmpback rz ⟨z', H', I', rz, qz⟩

/-- the callee runs, somewhat deeper -/
theorem run_fnIn1 {pins : List (Addr × Obj)} {σ : L2.St} {H : Hp} {s : Shared} {Q : VK} {us : List Value} {vs : List V} (F : FnOk X.prog X.w X.K X.mg X.base CX n f fd ps sp) (hr : Room (n + 1) X.A) (hb : Binds X.K fd ps []) (hx : Passes CX X E)
    (I : Inv X pins σ H s) (r : Vals vs us) (h : sp vs H Q E) : wpAny (model X.prog X.w) X.A.in1 (call (.ref f) us) (EP X pins σ Q) X.xe s := by
  have hl : us.length = ps.length := by rw [← r.length]; exact F.len _ _ _ _ h
  have hb2 := hb s us I.kIn (by simpa using hl)
  refine wpAny_call (codeAny_mono (F.run X.A.in1 X.stack s H ⟨us, []⟩ us vs Q E hr.in1 I.env0.in1 (by simpa using hb2) r h) fun r s' hq => ?_)
  cases r with
  | error e => exact hx pins σ H s e s' I hq
  | ok fl =>
    cases fl with
    | ret u => exact I.after hq
    | next => exact False.elim hq
    | brk => exact False.elim hq
    | cont => exact False.elim hq

/-- x != y by the own __eq__, turned round by object's __ne__ -/
def rOwnNe (C : Addr) (sp : Sp) (E : XK) : R2 := fun x y H Q => ∃ a dx fs b dy gs, x = .ref a ∧ y = .ref b ∧ H a = some (.ins C dx fs) ∧ H b = some (.ins C dy gs) ∧ sp [x, y] H (fun v H' => ∃ k, v = .bl k ∧ Q (.bl (!k)) H') E
theorem op_neOwn (hn : PySem.W.findIn X.K (.ref C) "__ne__" = some (some (.builtin "object.__ne__"))) (hm : PySem.W.mroIn X.K C (.type "object") = some true) (hs : PySem.W.findIn X.K (.ref C) "__eq__" = some (some (.ref f))) (hf : PySem.W.isFn X.K (.ref f) = true)
    (G : FnOk X.prog X.w X.K X.mg X.base CX n f fd ps sp) (hr : Room (n + 1) X.A) (hb : Binds X.K fd ps []) (hx : Passes CX X E) : OpR X (compareOp .NotEq) (rOwnNe C sp E) := by
  intro pins s σ H x y v u Q I rx ry h
  obtain ⟨a, dx, fs, b, dy, gs, rfl, rfl, ha, hb', q⟩ := h
  cases (show v = Value.ref a from rx)
  cases (show u = Value.ref b from ry)
  obtain ⟨mA, J, _⟩ := ins_get I.hok ha
  obtain ⟨mB, J', _⟩ := ins_get I.hok hb'
  obtain ⟨od, J, _⟩ := J.look
  obtain ⟨od', J', _⟩ := J'.look
  have kin : X.K.In s.heap := I.kIn
  show wpAny _ _ (richCompare .NotEq _ _) _ _ _
  have callee : wpAny (model X.prog X.w) X.A (call (.builtin "object.__ne__") [.ref a, .ref b]) (EP X pins σ Q) X.xe s := by
    refine wpAny_call (codeAny_call_builtin F.cmp_object.ne.plain F.cmpEntry_ne (PySem.W.check_slot (i := "object.__ne__") (owner := "object") (n := "__ne__") F.cmpKind_ne F.cmpSplit_ne (J.type.andThen (PySem.W.looks_mroIn kin hm)) (F.cmpArgs_ne _ _) ?_))
    unfold Builtin.«object.__ne__»
    refine wpAny_bind (m := slotArgs "__ne__" 1 _) (wpAny_pure ?_)
    refine wpAny_bind (m := cRoomFor _ _) (wpAny_cRoomFor (by have := hr.un; show X.A.units + 1 < cLine; omega) ?_)
    refine wpAny_bind (m := callSpecialIfBound? (.ref a) (Str.ofString "__eq__") _) (PySem.W.ifBound_K kin J hs hf (wpAny_mono (run_fnIn1 (us := [.ref a, .ref b]) (vs := [.ref a, .ref b]) G hr hb hx I (.cons rfl (.cons rfl .nil)) q) (fun w s' z => ?_) fun _ _ x => x))
    obtain ⟨z', H', I', rz, k, ez, qz⟩ := z
    subst ez
    cases rz
    refine wpAny_bind ?_
    refine wpAny_truthy_bool ?_
    exact wpAny_pure ⟨.bl (!k), H', I', rfl, qz⟩
  have one : wpAny (model X.prog X.w) X.A (tryCompare (.ref a) "__ne__" (.ref b)) (fun r s' => ∃ v, r = some v ∧ EP X pins σ Q v s') X.xe s := by
    unfold tryCompare
    refine wpAny_bind ?_
    simp only [callSpecialIfBound?, bindSpecialIfBound?]
    refine wpAny_holding (wpAny_bind (wpAny_bind (wpAny_bind (J.type.here ((PySem.W.looks_findIn kin hn).here ?_)))))
    simp only [F.cmp_object.ne.bind]
    refine wpAny_bind (wpAny_askSetting (wpAny_ite ?_))
    have fin : wpAny (model X.prog X.w) X.A (call (.builtin "object.__ne__") ([.ref a] ++ [.ref b]) >>= fun v => pure (some v)) (fun r s' => wpAny (model X.prog X.w) X.A (match r with | some .notImplemented | none => pure none | some v => pure (some v)) (fun r s' => ∃ v, r = some v ∧ EP X pins σ Q v s') X.xe s') X.xe s :=
      wpAny_bind (wpAny_mono callee (fun v s' h' => wpAny_pure (by
        obtain ⟨z, H', I', rz, qz⟩ := h'
        have hcb : PySem.W.CmpBack (fun v s' => EP X pins σ Q v s') v s' := cmpback rz ⟨z, H', I', rz, qz⟩
        cases v <;> first | exact hcb.elim | exact wpAny_pure ⟨_, rfl, hcb⟩)) fun _ _ h' => h')
    split
    · exact wpAny_bind (wpAny_pure (wpAny_pure fin))
    · exact wpAny_tryCatch (wpAny_bind (wpAny_pure (wpAny_pure fin)))
  unfold richCompare
  simp only [oneThing_ref]
  refine wpAny_holding (wpAny_bind (wpAny_cRoomFor hr.units0 ?_))
  refine wpAny_bind (J.type.here (wpAny_bind (J'.type.here ?_)))
  simp only [bne_self_eq_false, Bool.false_eq_true, if_false]
  refine wpAny_bind (wpAny_pure ?_)
  simp only [Bool.false_eq_true, if_false]
  refine wpAny_bind (wpAny_mono one (fun r s' z => ?_) fun _ _ e => e)
  obtain ⟨v, rfl, hq⟩ := z
  exact wpAny_pure hq
end
end K43
set_option Elab.async false
set_option linter.all false
set_option maxRecDepth 100000
set_option maxHeartbeats 4000000
/-! k43, part R1: ways (rings) as data; sorted, min, repr of lists of ways; a dict whose keys are ways. -/
namespace K43
open PySem PySem.Spec PyProof.Rows L2

/-! ### ways as data -/
abbrev Way := List (Nat × Nat)
def pairD (p : Nat × Nat) : PyData := .tuple [.int p.1, .int p.2]
def wayD (r : Way) : PyData := .tuple (r.map pairD)
def flat (r : Way) : List Int := r.flatMap fun p => [(p.1 : Int), (p.2 : Int)]
def wle (p q : Way) : Bool := decide (flat p ≤ flat q)

theorem alike_pair (p q : Nat × Nat) : PySem.W.alike (pairD p) (pairD q) = true := by
  simp [pairD, PySem.W.alike, PySem.W.alikeAll]
theorem alikeAll_pairs : ∀ r q : Way, PySem.W.alikeAll (r.map pairD) (q.map pairD) = true
  | [], _ => by simp [PySem.W.alikeAll]
  | _ :: _, [] => by simp [PySem.W.alikeAll]
  | x :: r, y :: q => by
    rw [List.map_cons, List.map_cons, PySem.W.alikeAll, alike_pair, alikeAll_pairs r q]
    rfl
theorem alike_way (r q : Way) : PySem.W.alike (wayD r) (wayD q) = true := by
  unfold wayD
  rw [PySem.W.alike]
  exact alikeAll_pairs r q
theorem lt_cons_cons {a b : Int} {l m : List Int} : (a :: l < b :: m) ↔ (a < b ∨ a = b ∧ l < m) := List.cons_lt_cons_iff
theorem rowLt_way : ∀ r q : Way, PySem.W.rowLt (r.map pairD) (q.map pairD) = decide (flat r < flat q)
  | [], [] => by
    have e : PySem.W.rowLt [] [] = false := lex_irrefl _
    simp [e, flat]
  | [], y :: ys => by
    have e : PySem.W.rowLt [] (pairD y :: ys.map pairD) = true := by
      unfold PySem.W.rowLt
      rw [PySem.W.toks_all_cons]
      simp only [PySem.W.keyToksAll]
      rw [lex_diff (O := itemOrd) (by simp)]
      rfl
    simpa [flat] using e
  | x :: xs, [] => by
    have e : PySem.W.rowLt (pairD x :: xs.map pairD) [] = false := by
      unfold PySem.W.rowLt
      rw [PySem.W.toks_all_cons]
      simp only [PySem.W.keyToksAll]
      rw [lex_diff (O := itemOrd) (by simp)]
      rfl
    simpa [flat] using e
  | x :: xs, y :: ys => by
    have e : PySem.W.rowLt (pairD x :: xs.map pairD) (pairD y :: ys.map pairD) = if PyData.eqv (pairD x) (pairD y) = true then PySem.W.rowLt (xs.map pairD) (ys.map pairD) else PySem.W.dataLt (pairD x) (pairD y) := by
      unfold PySem.W.rowLt
      rw [PySem.W.dataLt_cons (alike_pair x y)]
    rw [List.map_cons, List.map_cons, e, rowLt_way xs ys]
    unfold pairD
    rw [PySem.W.dataLt_ii]
    have e2 : flat (x :: xs) = (x.1 : Int) :: (x.2 : Int) :: flat xs := by simp [flat]
    have e3 : flat (y :: ys) = (y.1 : Int) :: (y.2 : Int) :: flat ys := by simp [flat]
    rw [e2, e3]
    have eq : PyData.eqv (.tuple [.int x.1, .int x.2]) (.tuple [.int y.1, .int y.2]) = true ↔ (x.1 : Int) = y.1 ∧ (x.2 : Int) = y.2 := by
      simp [PyData.eqv, PyData.eqvAll]
    have iff : ((x.1 : Int) :: (x.2 : Int) :: flat xs < (y.1 : Int) :: (y.2 : Int) :: flat ys) ↔ ((x.1 : Int) < y.1 ∨ (x.1 : Int) = y.1 ∧ ((x.2 : Int) < y.2 ∨ (x.2 : Int) = y.2 ∧ flat xs < flat ys)) := by
      rw [lt_cons_cons, lt_cons_cons]
    by_cases h : (x.1 : Int) = y.1 ∧ (x.2 : Int) = y.2
    · rw [if_pos (eq.mpr h)]
      refine decide_eq_decide.mpr ?_
      rw [iff]
      constructor
      · intro q; exact .inr ⟨h.1, .inr ⟨h.2, q⟩⟩
      · rintro (q | ⟨_, q | ⟨_, q⟩⟩)
        · omega
        · omega
        · exact q
    · rw [if_neg (fun q => h (eq.mp q))]
      refine decide_eq_decide.mpr ?_
      rw [iff]
      constructor
      · rintro (q | q)
        · exact .inl q
        · exact .inr ⟨q.1, .inl q.2⟩
      · rintro (q | ⟨q1, q | ⟨q2, _⟩⟩)
        · exact .inl q
        · exact .inr ⟨q1, q⟩
        · exact absurd ⟨q1, q2⟩ h
theorem dataLt_way (r q : Way) : PySem.W.dataLt (wayD r) (wayD q) = decide (flat r < flat q) := by
  unfold wayD
  rw [PySem.W.dataLt_tuple]
  exact rowLt_way r q
theorem dataLe_way : PySem.W.dataLe false wayD = wle := by
  funext p q
  show (!PySem.W.dataLt (wayD q) (wayD p)) = _
  rw [dataLt_way]
  unfold wle
  by_cases h : flat q < flat p
  · have h' : ¬ flat p ≤ flat q := fun r => List.not_lt.mpr r h
    simp [h, h']
  · have h' : flat p ≤ flat q := List.not_lt.mp h
    simp [h, h']
theorem depth_pairs : ∀ r : Way, PyData.depthAll (r.map pairD) ≤ 1
  | [] => by simp [PyData.depthAll]
  | x :: r => by
    have h := depth_pairs r
    have e : PyData.depth (pairD x) = 1 := by simp [pairD, PyData.depth, PyData.depthAll]
    rw [List.map_cons, PyData.depthAll, e]
    omega
theorem depth_way (r : Way) : PyData.depth (wayD r) ≤ 2 := by
  have h := depth_pairs r
  unfold wayD
  rw [PyData.depth]
  omega
theorem depthAll_ways : ∀ rs : List Way, PyData.depthAll (rs.map wayD) ≤ 2
  | [] => by simp [PyData.depthAll]
  | x :: r => by
    have h := depthAll_ways r
    have e := depth_way x
    rw [List.map_cons, PyData.depthAll]
    omega

/-! ### values and data -/
theorem DpAll.of_each {K : PySem.W.Frag} {H : Hp} {β : Type} {enc : β → PyData} : ∀ {us : List Value} {bs : List β}, PySem.W.EachIs (fun u b => ∃ x, RelV x u ∧ Dp K H x (enc b)) us bs → ∃ xs, Vals xs us ∧ DpAll K H xs (bs.map enc)
  | _, _, .nil => ⟨[], .nil, .nil⟩
  | _, _, .cons ⟨x, r, d⟩ t => by
    obtain ⟨xs, rs, ds⟩ := DpAll.of_each t
    exact ⟨x :: xs, .cons r rs, .cons d ds⟩
theorem DpAll.each {K : PySem.W.Frag} {H : Hp} {β : Type} {enc : β → PyData} : ∀ {xs : List V} {us : List Value} {bs : List β}, Vals xs us → DpAll K H xs (bs.map enc) → PySem.W.EachIs (fun u b => ∃ x, RelV x u ∧ Dp K H x (enc b)) us bs
  | [], [], [], .nil, .nil => .nil
  | _ :: _, _ :: _, _ :: _, .cons r rs, .cons d ds => .cons ⟨_, r, d⟩ (DpAll.each rs ds)
theorem DpAll.len {K : PySem.W.Frag} {H : Hp} : ∀ {xs : List V} {ds : List PyData}, DpAll K H xs ds → xs.length = ds.length
  | _, _, .nil => rfl
  | _, _, .cons _ t => by rw [List.length_cons, List.length_cons, DpAll.len t]
theorem DpAll.get {K : PySem.W.Frag} {H : Hp} : ∀ {xs : List V} {ds : List PyData} {i : Nat} {x : V}, DpAll K H xs ds → xs[i]? = some x → ∃ d, ds[i]? = some d ∧ Dp K H x d
  | _, _, 0, _, .cons d _, e => by cases e; exact ⟨_, rfl, d⟩
  | _, _, i + 1, _, .cons _ t, e => by
    obtain ⟨d, h1, h2⟩ := DpAll.get (i := i) t (by simpa using e)
    exact ⟨d, by simpa using h1, h2⟩
  | _, _, _, _, .nil, e => by simp at e

section
variable {X : Cx}
/-- sorted(l), l a list of ways -/
def rSortedW (K : PySem.W.Frag) : List V → Hp → VK → Prop := fun vs H Q => ∃ (a : Addr) (xs : List V) (bs : List Way), vs = [.ref a] ∧ SqL K H a xs ∧ DpAll K H xs (bs.map wayD) ∧ (∀ b ∈ bs, b ≠ []) ∧
  ∀ p ys, H p = none → DpAll K H ys ((bs.mergeSort wle).map wayD) → Q (.ref p) (upd H p (.lst ys))
theorem cr_sortedW (hu : X.A.units + 8 < cLine) : CallR X (.builtin "sorted") (rSortedW X.K) := by
  intro pins s σ H vs us Q I r h
  obtain ⟨a, xs, bs, rfl, hl, hd, hne, q⟩ := h
  obtain ⟨u, rfl, ru⟩ := r.one
  cases (show u = Value.ref a from ru)
  obtain ⟨its, rv, hpl, hz⟩ := I.list hl
  have e := DpAll.each rv hd
  have hlen : xs.length = bs.length := by rw [DpAll.len hd, List.length_map]
  have er : PySem.W.EachIs (fun v b => ∃ as, Reads s.heap v (wayD b) as) its bs := e.mono fun v b ⟨x, rx, dx⟩ => Dp.reads I _ _ _ dx rx
  refine PySem.W.sorted_data (enc := wayD) hpl.isList e er (.of alike_way) (.inl ?_) (by rw [← hlen]; exact hz) ?_ ?_
  · intro d hd
    obtain ⟨b, hb, rfl⟩ := List.mem_map.mp hd
    cases b with
    | nil => exact absurd rfl (hne _ hb)
    | cons p t => exact ⟨pairD p, t.map pairD, rfl⟩
  · intro b _
    have := depth_way b
    omega
  · intro out hol ho
    rw [dataLe_way] at ho
    obtain ⟨ys, ry, dy⟩ := DpAll.of_each ho
    obtain ⟨ep, he'⟩ := PyProof.Rows.sortedAll_at s.heap its out.toArray
    have hyl : ys.length ≤ sizeLine := by
      rw [ry.length, hol, ← hlen]
      exact hz
    exact ⟨.ref _, upd H (s.heap.objs.size + 1) (.lst ys), I.laid (t' := s.toks) (fun _ _ => PyProof.Rows.sortedAll_old) (Nat.le_succ _) ⟨hyl, out, ep, ry, he'⟩, rfl, q _ _ (I.hok.fresh (Nat.le_succ _)) dy⟩

/-- the least of some ways -/
def minW (x : Way) (ws : List Way) : Way := ws.foldl (fun a y => if flat y < flat a then y else a) x
theorem minD_way : ∀ (ws : List Way) (x : Way), PySem.W.minD (wayD x) (ws.map wayD) = wayD (minW x ws)
  | [], _ => rfl
  | y :: ws, x => by
    show PySem.W.minD (if PySem.W.dataLt (wayD y) (wayD x) = true then wayD y else wayD x) (ws.map wayD) = _
    rw [dataLt_way]
    unfold minW
    rw [List.foldl_cons]
    by_cases h : flat y < flat x
    · rw [if_pos (decide_eq_true h), if_pos h]
      exact minD_way ws y
    · rw [if_neg (by simpa using h), if_neg h]
      exact minD_way ws x
/-- min(l), l a list of ways -/
def rMinW (K : PySem.W.Frag) : List V → Hp → VK → Prop := fun vs H Q => ∃ (a : Addr) (xs : List V) (x : Way) (ws : List Way), vs = [.ref a] ∧ SqL K H a xs ∧ DpAll K H xs ((x :: ws).map wayD) ∧
  ∀ v, v ∈ xs → Dp K H v (wayD (minW x ws)) → Q v H
theorem cr_minW (hc : X.calm = true) (hu : X.A.units + 8 < cLine) : CallR X (.builtin "min") (rMinW X.K) := by
  intro pins s σ H vs us Q I r h
  obtain ⟨a, xs, x, ws, rfl, hl, hd, q⟩ := h
  obtain ⟨u, rfl, ru⟩ := r.one
  cases (show u = Value.ref a from ru)
  obtain ⟨its, rv, hpl, hz⟩ := I.list hl
  obtain ⟨as, hr⟩ := Dp.readsAll I _ _ _ hd rv
  refine PySem.W.min_list_data (x := wayD x) (xs := ws.map wayD) (I.ok.hd hc) hpl.isList (by simpa using hr) ⟨?_, ?_⟩ ?_ ?_
  · intro d hd d' hd'
    obtain ⟨b, hb, rfl⟩ := List.mem_map.mp (show d ∈ (x :: ws).map wayD from hd)
    obtain ⟨b', hb', rfl⟩ := List.mem_map.mp (show d' ∈ (x :: ws).map wayD from hd')
    exact alike_way _ _
  · intro d hd
    obtain ⟨b, hb, rfl⟩ := List.mem_map.mp (show d ∈ (x :: ws).map wayD from hd)
    unfold wayD
    intro z; cases z
  · have := depthAll_ways (x :: ws)
    show X.A.units + 1 + PyData.depthAll ((x :: ws).map wayD) < cLine
    omega
  · intro i v h' tk bs hi rd hk
    have hi' : its[i]? = some v := by simpa using hi
    obtain ⟨z, hz1⟩ : ∃ z, xs[i]? = some z := by
      cases e : xs[i]? with
      | some z => exact ⟨z, rfl⟩
      | none =>
        have := rv.none_of e
        rw [this] at hi'; cases hi'
    obtain ⟨u, hu1, ru1⟩ := rv.get hz1
    rw [hi'] at hu1
    cases hu1
    obtain ⟨d, hd1, dz⟩ := DpAll.get hd hz1
    obtain ⟨as1, r1⟩ := Dp.reads I _ _ _ dz ru1
    have ed := (PyProof.Rows.reads_det (fun b o e _ => hk b o e) r1 rd).1
    rw [minD_way] at ed
    rw [← ed] at dz
    exact ⟨z, H, I.kept hk, ru1, q z (List.mem_of_getElem? hz1) dz⟩

/-- repr(l), l a list of ways -/
theorem showable_pairs : ∀ r : Way, (∀ p ∈ r, p.1 < 100 ∧ p.2 < 100) → PyData.showableAll (r.map pairD) = true
  | [], _ => by simp [PyData.showableAll]
  | p :: r, h => by
    have hp := h p (List.mem_cons_self ..)
    have l1 : (p.1 : Int).natAbs.log2 < 1920 := by
      have : p.1.log2 ≤ p.1 := Nat.log2_le_self _
      show p.1.log2 < 1920
      omega
    have l2 : (p.2 : Int).natAbs.log2 < 1920 := by
      have : p.2.log2 ≤ p.2 := Nat.log2_le_self _
      show p.2.log2 < 1920
      omega
    rw [List.map_cons, PyData.showableAll, showable_pairs r fun q hq => h q (List.mem_cons_of_mem _ hq)]
    simp only [pairD, PyData.showable, PyData.showableAll, l1, l2, decide_true, Bool.and_self]
theorem showable_ways : ∀ rs : List Way, (∀ r ∈ rs, ∀ p ∈ r, p.1 < 100 ∧ p.2 < 100) → PyData.showableAll (rs.map wayD) = true
  | [], _ => by simp [PyData.showableAll]
  | r :: rs, h => by
    rw [List.map_cons, PyData.showableAll, showable_ways rs fun q hq => h q (List.mem_cons_of_mem _ hq)]
    have := showable_pairs r (h r (List.mem_cons_self ..))
    simp [wayD, PyData.showable, this]
theorem nodict_pairs : ∀ r : Way, PyData.hasDictAll (r.map pairD) = false
  | [] => by simp [PyData.hasDictAll]
  | p :: r => by
    rw [List.map_cons, PyData.hasDictAll, nodict_pairs r]
    simp [pairD, PyData.hasDict, PyData.hasDictAll]
theorem nodict_ways : ∀ rs : List Way, PyData.hasDictAll (rs.map wayD) = false
  | [] => by simp [PyData.hasDictAll]
  | r :: rs => by
    rw [List.map_cons, PyData.hasDictAll, nodict_ways rs]
    simp [wayD, PyData.hasDict, nodict_pairs]
def rReprW (K : PySem.W.Frag) : List V → Hp → VK → Prop := fun vs H Q => ∃ (a : Addr) (xs : List V) (bs : List Way), vs = [.ref a] ∧ SqL K H a xs ∧ DpAll K H xs (bs.map wayD) ∧ (∀ r ∈ bs, ∀ p ∈ r, p.1 < 100 ∧ p.2 < 100) ∧
  (PyData.shown (.list (bs.map wayD))).length ≤ sizeLine ∧ Q (.str (PyData.shown (.list (bs.map wayD)))) H
theorem cr_reprW (hg : X.A.guards = some []) (hu : X.A.units + 8 < cLine) : CallR X (.builtin "repr") (rReprW X.K) := by
  intro pins s σ H vs us Q I r h
  obtain ⟨a, xs, bs, rfl, hl, hd, hs, hz, q⟩ := h
  obtain ⟨u, rfl, ru⟩ := r.one
  cases (show u = Value.ref a from ru)
  obtain ⟨as, rd⟩ := Dp.reads I (.list (bs.map wayD)) (.ref a) (.ref a) (.lst hl hd) rfl
  refine repr_of_reads' rd (by rw [PyData.showable]; exact showable_ways bs hs) (fun h => ?_) hg ?_ (fun _ _ e => e) (fun h' u tk hk => ?_) hz
  · rw [PyData.hasDict, nodict_ways] at h
    cases h
  · have := depthAll_ways bs
    rw [PyData.depth]
    omega
  · exact ⟨.str _, H, I.kept hk, ⟨_, rfl⟩, q⟩
end
end K43
set_option Elab.async false
set_option linter.all false
set_option maxRecDepth 100000
set_option maxHeartbeats 4000000
/-! k43, part R2: t[::-1] of a tuple; enumerate(tuple); sorted(a dict with whole numbers as keys). -/
namespace K43
open PySem PySem.Spec PyProof.Rows L2 HT

section
variable {prog : Program} {w : World} {A : Around} {E : Value → Shared → Prop} {s : Shared}
theorem adjust_rev (n : Nat) : Builtin.Slice.sliceAdjust none none (-1) (n : Int) = ((n : Int) - 1, -1) := by
  unfold Builtin.Slice.sliceAdjust
  simp
theorem places_rev (n : Nat) : Builtin.Slice.slicePlaces ((n : Int) - 1) (-1) (-1) = n := by
  unfold Builtin.Slice.slicePlaces
  have h1 : ¬ ((-1 : Int) > 0) := by decide
  rw [if_neg h1]
  have e : (- -1 : Int) = 1 := by decide
  rw [e, Int.ediv_one]
  by_cases h : (n : Int) - 1 > -1
  · rw [if_pos h]; omega
  · rw [if_neg h]; omega
theorem fm_congr {α β : Type} {f g : α → Option β} : ∀ {l : List α}, (∀ x ∈ l, f x = g x) → l.filterMap f = l.filterMap g
  | [], _ => rfl
  | a :: l, h => by
    have h1 := h a (List.mem_cons_self ..)
    have h2 := fm_congr (l := l) fun x hx => h x (List.mem_cons_of_mem _ hx)
    rw [List.filterMap_cons, List.filterMap_cons, h1, h2]
theorem pick_rev (xs : Array Value) : ((List.range xs.size).filterMap fun (m : Nat) => xs[((xs.size : Int) - 1 + (m : Int) * -1).toNat]?).toArray = xs.toList.reverse.toArray := by
  congr 1
  apply List.ext_getElem?
  intro i
  have e : (List.range xs.size).filterMap (fun (m : Nat) => xs[((xs.size : Int) - 1 + (m : Int) * -1).toNat]?) = ((List.range xs.size).map fun k => xs.size - 1 - k).filterMap (xs[·]?) := by
    rw [List.filterMap_map]
    refine fm_congr fun m hm => ?_
    have : ((xs.size : Int) - 1 + (m : Int) * -1).toNat = xs.size - 1 - m := by
      have := List.mem_range.mp hm
      omega
    rw [this]
    rfl
  rw [e, PySem.W.krv_range, List.filterMap_reverse, PySem.W.krv_all]
theorem getItem_tuple_rev {t sl : Addr} {items : Array Value} {vl vu vs : Value} {Q : Value → Shared → Prop} (ht : IsTup s.heap t items) (hs : s.heap.IsSliceOf sl vl vu vs) (pl : IsPart vl none) (pu : IsPart vu none) (ps : IsPart vs (some (-1)))
    (h : Q (.ref s.heap.objs.size) { s with heap := s.heap.push { cls := .type "tuple", data := .seq items.toList.reverse.toArray } })
    (hsz : items.size ≤ sizeLine) : wpAny (model prog w) A (getItem (.ref t) (.ref sl)) Q E s := by
  have htake : sizeOk (.seq items.toList.reverse.toArray) := by
    show items.toList.reverse.toArray.size ≤ sizeLine
    rw [List.size_toArray, List.length_reverse, Array.length_toList]
    exact hsz
  obtain ⟨os, hos, hcs, hds⟩ := id hs
  have hTs : s.TypeIs (.ref sl) "slice" := ⟨os, hos, hcs⟩
  unfold getItem
  try with_reducible refine wpAny_holding ?_
  first | refine wpAny_bind (wpAny_pure ?_) | skip
  refine wpAny_bind (wpAny_sequenceKey ht.typeIs (by decide) ?_)
  refine wpAny_bind (wpAny_callSpecial?_slot (name := Str.ofString "__getitem__") ht.typeIs PyProof.Rows.slot_tuple_getitem
    (wpAny_call_entry PyProof.Rows.slot_tuple_getitem ht.typeIs entry_tuple_getitem ?_ (args_tuple_getitem _ _)))
  show wpAny _ _ (Builtin.Tuple.tupleItemsOf (.ref t) >>= _) _ _ s
  refine wpAny_bind (tupleItemsOf_ ht ?_)
  refine wpAny_bind (wpAny_typeOf hTs ?_)
  rw [if_pos (by decide)]
  have applied : ∀ {A : Around} {E : Value → Shared → Prop} {Q : Int × Int × Nat → Shared → Prop}, Q ((items.size : Int) - 1, -1, items.size) s → wpAny (model prog w) A (Builtin.Slice.sliceApplied (.ref sl) (pure (items.size : Int))) Q E s := by
    intro A E Q h
    unfold Builtin.Slice.sliceApplied Builtin.Slice.sliceFields
    refine wpAny_bind (wpAny_bind (wpAny_field hos hds (x := vl) rfl (wpAny_bind (wpAny_field hos hds (x := vu) rfl (wpAny_bind (wpAny_field hos hds (x := vs) rfl (wpAny_pure ?_)))))))
    refine wpAny_bind (slicePart_ ps ?_)
    show wpAny _ _ (if ((-1 : Int) == 0) = true then _ else _) _ _ s
    rw [if_neg (by decide)]
    refine wpAny_bind (slicePart_ pl (wpAny_bind (slicePart_ pu (wpAny_bind (wpAny_pure ?_)))))
    show wpAny _ _ (match Builtin.Slice.sliceAdjust none none (-1) (items.size : Int) with | (lo, hi) => pure (lo, (-1 : Int), Builtin.Slice.slicePlaces lo hi (-1))) _ _ s
    rw [adjust_rev]
    show wpAny _ _ (pure ((items.size : Int) - 1, (-1 : Int), Builtin.Slice.slicePlaces ((items.size : Int) - 1) (-1) (-1))) _ _ s
    rw [places_rev]
    exact wpAny_pure h
  refine wpAny_bind (applied ?_)
  have hno : ¬ ((((items.size : Int) - 1) == 0 && (-1 : Int) == 1 && items.size == items.size) = true) := by
    intro q
    rw [Bool.and_eq_true, Bool.and_eq_true] at q
    exact absurd q.1.2 (by decide)
  show wpAny _ _ (if (((items.size : Int) - 1) == 0 && (-1 : Int) == 1 && items.size == items.size) = true then _ else _) _ _ s
  rw [if_neg hno, pick_rev]
  first
    | exact wpAny_bind (m := Builtin.Tuple.tupleExact _) (wpAny_newObj_type (wpAny_pure ⟨_, rfl, wpAny_pure h⟩) htake)
    | exact wpAny_bind (m := Builtin.Tuple.tupleExact _) (wpAny_newObj_type (wpAny_bind (wpAny_pure (wpAny_pure ⟨_, rfl, wpAny_pure h⟩))) htake)
    | exact wpAny_bind (wpAny_bind (m := Builtin.Tuple.tupleExact _) (wpAny_newObj_type (wpAny_pure (wpAny_pure ⟨_, rfl, wpAny_pure h⟩)) htake))
    | exact wpAny_bind (wpAny_bind (m := Builtin.Tuple.tupleExact _) (wpAny_newObj_type (wpAny_pure ⟨_, rfl, wpAny_pure h⟩) htake))
end

section
variable {X : Cx} {pos : Pos}
def tRevT (K : PySem.W.Frag) (te : TE) : TE := fun σ H Q => te σ H fun x H1 => ∃ a xs, x = .ref a ∧ SqT K H1 a xs ∧ ∀ p, H1 p = none → Q (.ref p) (upd H1 p (.tup xs.reverse))
theorem pe_revT {e : Expr} {te : TE} {k : Nat} {p1 p2 p3 pos : Pos} (he : PE X e te) : PE X (.Subscript e (.Slice none none (some (.UnaryOp .USub (.Constant (.int 1) k p1) p2)) p3) pos) (tRevT X.K te) := by
  refine ⟨fun pins s σ H Q I h => ?_⟩
  refine Subscript_ (thn (he.run pins s σ H _ I h) fun v s1 ⟨x, H1, I1, r1, q1⟩ => ?_)
  obtain ⟨a, xs, ex, hx, q⟩ := q1
  subst ex
  cases r1
  have hst : PO X (some (.UnaryOp .USub (.Constant (.int 1) k p1) p2)) (tPart (tUn (rU fun i => .int (-i)) (tC (.int 1)))) := po_some (pe_un un_neg pe_int)
  refine wpAny_Slice (thn (po_none.run pins s1 σ H1 (fun o H2 => o = none ∧ H2 = H1) I1 ⟨rfl, rfl⟩) fun vl s2 ⟨l, H2, I2, pl, el, e2⟩ => ?_)
  subst el e2
  refine thn (po_none.run pins s2 σ H2 (fun o H3 => o = none ∧ H3 = H2) I2 ⟨rfl, rfl⟩) fun vu s3 ⟨u, H3, I3, pu, eu, e3⟩ => ?_
  subst eu e3
  refine thn (hst.run pins s3 σ H3 (fun o H4 => o = some (-1) ∧ H4 = H3) I3 ⟨1, rfl, -1, rfl, rfl, rfl⟩) fun vs s4 ⟨o, H4, I4, ps, eo, e4⟩ => ?_
  subst eo e4
  have I5 : Inv X pins σ H4 { s4 with heap := s4.heap.push { cls := .type "slice", data := .fields #[vl, vu, vs] } } := I4.kept (t' := s4.toks) fun b ob q => Heap.get?_push_of_some _ q
  obtain ⟨its, r, ht, hz⟩ := I5.tuple hx
  have hlen := r.length
  show wpAny (model X.prog X.w) X.A (subscriptTail e (.Slice none none (some (.UnaryOp .USub (.Constant (.int 1) k p1) p2)) p3) (.ref a) (.ref s4.heap.objs.size)) (EP X pins σ Q) X.xe { s4 with heap := s4.heap.push { cls := .type "slice", data := .fields #[vl, vu, vs] } }
  refine tail_any (ops := [.ref a, .ref s4.heap.objs.size]) ht.typeIs (PyProof.Rows.slot_tuple_getitem.lookup) ?_ (by with_unfolding_all rfl)
  refine getItem_tuple_rev ht (Heap.IsSliceOf.new _ vl vu vs) pl pu ps ?_ (by rw [List.size_toArray]; omega)
  refine ⟨.ref _, _, I5.laid (t' := s4.toks) (o := .tup xs.reverse) (fun b ob q => Heap.get?_push_of_some _ q) (Nat.le_refl _) ?_, rfl, q _ (I5.hok.fresh (Nat.le_refl _))⟩
  exact ⟨by rw [List.length_reverse]; exact hz, _, r.reverse, ⟨_, Heap.get?_push_size _ rfl, rfl, _, rfl⟩⟩

/-! ### for i, x in enumerate(t), t a tuple -/
def IteT (K : PySem.W.Frag) (a : Addr) : It :=
  ⟨fun i H => ∃ (xs : List V) (x : V), SqT K H a xs ∧ xs[i]? = some x, fun i H v H' => ∃ T x, v = .ref T ∧ H T = none ∧ H' = upd H T (.tup [.int (i : Nat), x]) ∧ ∀ xs, SqT K H a xs → xs[i]? = some x, fun i H => ∃ xs : List V, SqT K H a xs ∧ xs.length ≤ i⟩
end
section
variable {prog : Program} {w : World} {A : Around} {E : Value → Shared → Prop} {s : Shared}
set_option maxHeartbeats 4000000 in
theorem meets_enumerate_new1 {v : Value} {o : Obj} {H : Heap → Prop} (B : Begins v o H) :
    Meets (Builtin.«enumerate.__new__» ⟨[.type "enumerate", v], []⟩) (fun _ R s => H s.heap ∧
      R (.ok (.ret (.ref (s.heap.push o).objs.size))) { s with heap := (s.heap.push o).push { cls := .type "enumerate", data := .fields #[.none, .bool false, .ref s.heap.objs.size, rawInt 0, .none, .none] } }) :=
  .of_wp fun prog w A R s h => by
    obtain ⟨hp, g, d, tk, os⟩ := s; obtain ⟨h1, h⟩ := h
    have hsub := sub_enumerate
    have q1 : ∀ {A' : Around} {E : Value → Shared → Prop} {Q : Value → Shared → Prop}, Q (.ref hp.objs.size) ⟨hp.push o, g, d, tk, os⟩ → wpAny (model prog w) A' (pyIter v) Q E ⟨hp, g, d, tk, os⟩ :=
      fun q => B.iter prog w _ _ ⟨hp, g, d, tk, os⟩ _ h1 q
    wp_walk using q1
    refine wpAny_stack_any fun st => wpAny_pure ?_
    split
    · rename_i c _ _ _ _ _
      cases (c == Value.type "enumerate")
      · wp_walk using q1
        exact ⟨_, rfl, h⟩
      · wp_walk using q1
        exact ⟨_, rfl, h⟩
    · wp_walk using q1
      exact ⟨_, rfl, h⟩
theorem call_enumerate_tup {l : Addr} {items : Array Value} {Q : Value → Shared → Prop} (hL : s.heap.IsTuple l items)
    (h : ∀ h', IsEnum h' (s.heap.objs.size + 1) s.heap.objs.size 0 .none → h'.IsTupleIter s.heap.objs.size l 0 → h'.objs.size = s.heap.objs.size + 2 →
      (∀ b o, s.heap.get? b = some o → h'.get? b = some o) → Q (.ref (s.heap.objs.size + 1)) { s with heap := h' }) :
    wpAny (model prog w) A (call (.type "enumerate") [.ref l]) Q E s := by
  refine callType_new F.called_enumerate (by decide) (F.typeCall_enumerate_1 _) (F.newCall_enumerate_1 _) (fun obj => F.args_object_init_2 obj _) F.entry_enumerate_new
    (meets_enumerate_new1 (begins_tuple l items)) ⟨hL, ?_⟩
  have hz : (s.heap.push { cls := .type "tuple_iterator", data := .fields #[.ref l, .int 0 0] }).objs.size = s.heap.objs.size + 1 := Heap.size_push ..
  show _ ∧ _
  rw [hz]
  have he : IsEnum ((s.heap.push { cls := .type "tuple_iterator", data := .fields #[.ref l, .int 0 0] }).push
      { cls := .type "enumerate", data := .fields #[.none, .bool false, .ref s.heap.objs.size, rawInt 0, .none, .none] }) (s.heap.objs.size + 1) s.heap.objs.size 0 .none := by
    have := Heap.get?_push_size (s.heap.push { cls := .type "tuple_iterator", data := .fields #[.ref l, .int 0 0] })
      (o := { cls := .type "enumerate", data := .fields #[.none, .bool false, .ref s.heap.objs.size, rawInt 0, .none, .none] }) rfl
    rw [hz] at this; exact this
  refine ⟨⟨_, he, rfl⟩, h _ he ⟨_, Heap.get?_push_of_some _ (Heap.get?_push_size _ rfl), rfl, rfl⟩ (by rw [Heap.size_push, hz]) fun b o x => Heap.get?_push_of_some _ (Heap.get?_push_of_some _ x)⟩
end

theorem turn_enumT {P : Program} {w : World} {K : PySem.W.Frag} {elts : List Expr} {kk : Nat} {tpos : Pos} (a e it : Addr) :
    Turn P w K (.Tuple elts kk tpos) (IteT K a) [e, it] e (fun i h => (∃ old, IsEnum h e it ((i : Nat) : Int) old) ∧ h.IsTupleIter it a i ∧ e ≠ it ∧ a ≠ e ∧ a ≠ it) where
  mem := by simp
  obj := fun i h st b hb => by
    obtain ⟨⟨old, he⟩, ⟨o, ho, hc, hd⟩, _⟩ := st
    have e' : b = e ∨ b = it := by simpa using hb
    rcases e' with z | z
    · rw [z]; exact ⟨_, he, fun v q => nomatch q⟩
    · rw [z]; exact ⟨o, ho, fun v q => by rw [hd] at q; cases q⟩
  keep := fun i h h' st k => let ⟨⟨old, he⟩, hi, hne⟩ := st; ⟨⟨old, k e (by simp) _ he⟩, hi.at fun o q => k it (by simp) o q, hne⟩
  item := by
    intro X hP hw hK hc i pins s σ H E I hf st hg
    subst hP hw hK
    obtain ⟨⟨old, he⟩, hit, hne, hae, hai⟩ := st
    obtain ⟨xs, x, hq, hx⟩ := hg
    obtain ⟨its, rv, p, hz⟩ := I.tuple hq
    obtain ⟨u, hu, ru⟩ := rv.get hx
    have hel : e < s.heap.objs.size := Heap.lt_size he
    have hil : it < s.heap.objs.size := by obtain ⟨_, q, _⟩ := hit; exact Heap.lt_size q
    have hlt : i < its.toArray.size := by
      have : i < its.length := (List.getElem?_eq_some_iff.mp hu).1
      simpa using this
    refine wpAny_pyNext_enum_itemD (Draws.tuple (prog := X.prog) (w := X.w) (A := X.A.in1) (I.ok.hd hc) it a hai its.toArray) he ⟨hit, show s.heap.IsTuple a its.toArray from p⟩ hlt hne (by simp [hne, Ne.symm hae]) fun y h' tk hy ho hst' hT hsz hk => ?_
    obtain ⟨hit', htup'⟩ := hst'
    have hy' : its[i]? = some y := by simpa using hy
    rw [hu] at hy'
    cases hy'
    refine ⟨_, rfl, wpAny_letOwnedTupleGo_enum (s := { s with heap := h', toks := tk + 1 }) ho fun h'' he' sb => ?_⟩
    have hT2 : h''.get? s.heap.objs.size = some { cls := .type "tuple", data := .seq #[.int i tk, u] } := (sb.2 _ (Nat.ne_of_gt hel)).trans hT
    have new : ObjOk X.prog X.w (upd H s.heap.objs.size (.tup [.int (i : Nat), x])) h'' s.heap.objs.size (.tup [.int (i : Nat), x]) :=
      ⟨by show 2 ≤ sizeLine; decide, [.int i tk, u], .cons ⟨_, rfl⟩ (.cons ru .nil), ⟨_, hT2, rfl, _, rfl⟩⟩
    have I1 : Inv X pins σ (upd H s.heap.objs.size (.tup [.int (i : Nat), x])) { s with heap := h'', toks := tk + 1 } :=
      I.turnedNew (ch := [e, it]) (fun b ob hb q => (sb.2 b (fun z => hb (by simp [z]))).trans (hk b ob (fun z => hb (by simp [z])) (fun z => hb (by simp [z])) q)) hf (Nat.le_refl _) new
    refine ⟨.ref s.heap.objs.size, _, I1, rfl, ⟨_, x, rfl, I.hok.fresh (Nat.le_refl _), rfl, fun ys hy => by rw [I.tuple_inj hy hq]; exact hx⟩, ⟨⟨u, ?_⟩, hit'.at fun o q => (sb.2 it (Ne.symm hne)).trans q, hne, hae, hai⟩, fun b hb => ?_⟩
    · have e1 : ((i + 1 : Nat) : Int) = (i : Int) + 1 := by omega
      rw [e1]; exact he'
    · have hb' : b < s.heap.objs.size := by
        have e' : b = e ∨ b = it := by simpa using hb
        rcases e' with z | z
        · rw [z]; exact hel
        · rw [z]; exact hil
      rw [upd_ne (Nat.ne_of_lt hb')]
      exact (hf b hb).1
  done := by
    intro X hP hw hK hc i pins s σ H E I hf st hg
    subst hP hw hK
    obtain ⟨⟨old, he⟩, hit, hne, hae, hai⟩ := st
    obtain ⟨xs, hq, hx⟩ := hg
    obtain ⟨its, rv, p, hz⟩ := I.tuple hq
    obtain ⟨f0, f1, f2, f3, f4, f5⟩ := hf it (by simp)
    have hl := rv.length
    have hE : i ≤ its.toArray.size ∨ True := .inr trivial
    have D := (Draws.tuple (prog := X.prog) (w := X.w) (A := X.A.in1) (I.ok.hd hc) it a hai its.toArray)
    have hT : s.TypeIs (.ref e) "enumerate" := ⟨_, he, rfl⟩
    unfold pyNext
    refine wpAny_bind (wpAny_attempt (wpAny_callSpecial?_slot (name := Str.ofString "__next__") hT F.slot_enumerate_next
      (wpAny_call_entry F.slot_enumerate_next hT F.entry_enumerate_next ?_ (F.args_enumerate_next_1 _))))
    show wpAny _ _ (field (.ref e) 2 >>= _) _ _ _
    refine wpAny_bind (wpAny_field he rfl (x := .ref it) rfl ?_)
    refine wpAny_bind (wpAny_nextOf_tuple_end (I.ok.hd hc) hit (show s.heap.IsTuple a its.toArray from p) (by simp; omega) fun h' x he' hx' => ?_)
    obtain ⟨o, ho, hc2⟩ := hx'
    refine wpAny_bind (wpAny_isInstance (T := "StopIteration") (b := true) ⟨o, ho, hc2⟩ isSubtype_stop ?_)
    exact wpAny_pure ⟨rfl, I.turned (t' := s.toks) (fun b o hb q => he' b o hb q) f0 f1 f3 f4 f5⟩
  self := fun A i s Q E st h => let ⟨⟨_, he⟩, _⟩ := st; wpAny_pyIter_enum he h
def iEnumT (K : PySem.W.Frag) (ta : TA) : TI := fun σ H R => ta σ H fun vs H1 => ∃ a xs, vs = [.ref a] ∧ SqT K H1 a xs ∧ R (IteT K a) H1
theorem pi_enumT {X : Cx} {e : Expr} {ta : TA} {p pos tpos : Pos} {elts : List Expr} {kk : Nat} (hg : Gl X "enumerate") (hm : X.mg "enumerate" = none) (ha : PA X [e] ta) (hs : starEach [e] X.env = [(false, eval e X.env)] := by rfl) :
    PI X (.Tuple elts kk tpos) (.Call (.Name "enumerate" p) [e] [] pos) (iEnumT X.K ta) := by
  refine ⟨fun pins s σ H R I h => ?_⟩
  refine Call_ (ld_blt I hg hm boot_enumerate (PyProof.Rows.callWith_type1 (thn (ha.run pos pins s σ H _ I h) fun us s1 ⟨vs, H1, I1, r1, q1⟩ => ?_) hs rfl))
  obtain ⟨a, xs, ex, hq, q⟩ := q1
  subst ex
  cases r1 with
  | cons r rr =>
    cases rr
    cases r
    obtain ⟨its, rv, p', hz⟩ := I1.tuple hq
    have hal : a < s1.heap.objs.size := p'.lt
    refine call_enumerate_tup (show s1.heap.IsTuple a its.toArray from p') fun h' he hit hsz hk => wpAny_pyIter_enum he ?_
    have I2 : Inv X pins σ H1 { s1 with heap := h' } := I1.kept (t' := s1.toks) hk
    refine ⟨s1.heap.objs.size + 1, [s1.heap.objs.size + 1, s1.heap.objs.size], _, _, H1, rfl, I2, turn_enumT a (s1.heap.objs.size + 1) s1.heap.objs.size, ⟨⟨.none, he⟩, hit, Nat.succ_ne_self _, Nat.ne_of_lt (Nat.lt_succ_of_lt hal), Nat.ne_of_lt hal⟩, fun b hb => ?_, q⟩
    have e' : b = s1.heap.objs.size + 1 ∨ b = s1.heap.objs.size := by simpa using hb
    have hle : s1.heap.objs.size ≤ b := by
      rcases e' with z | z
      · rw [z]; exact Nat.le_add_right _ _
      · rw [z]; exact Nat.le_refl _
    exact I1.fpOk hle (I1.hok.fresh hle)
theorem walk_enumT {K : PySem.W.Frag} {a : Addr} {xs : List V} : Walk (IteT K a) xs.length (fun H => SqT K H a xs) (YPair (fun i => some (.int (i : Nat))) (fun i => xs[i]?)) := by
  refine ⟨fun i _ hi q => ⟨xs, xs[i], q, by simp [hi]⟩, fun _ q => ⟨xs, q, Nat.le_refl _⟩, fun i H v H' _ q y => ?_⟩
  obtain ⟨T, x, h1, h2, h3, h4⟩ := y
  exact ⟨T, .int (i : Nat), x, h1, h2, h3, rfl, h4 xs q⟩
end K43
set_option Elab.async false
set_option linter.all false
set_option maxRecDepth 100000
set_option maxHeartbeats 4000000
/-! k43, part R3: sorted(d), d a dict whose keys are whole numbers; a dict whose keys are ways. -/
namespace K43
open PySem PySem.Spec PyProof.Rows L2

theorem ints_at : ∀ {us : List Value} {ks : List Int}, us.length = ks.length → (∀ (j : Nat) (v : Value), us[j]? = some v → ∃ (x : Int) (t : Tok), ks[j]? = some x ∧ v = Value.int x t) → IntsAre us ks
  | [], [], _, _ => .nil
  | u :: us, k :: ks, hl, h => by
    obtain ⟨x, t, e1, e2⟩ := h 0 u rfl
    have e1' : k = x := Option.some.inj e1
    subst e1'
    subst e2
    refine .cons _ _ (ints_at (by simpa using hl) fun j v e => ?_)
    obtain ⟨x, t, a, b⟩ := h (j + 1) v (by simpa using e)
    exact ⟨x, t, by simpa using a, b⟩
  | [], _ :: _, hl, _ => by simp at hl
  | _ :: _, [], hl, _ => by simp at hl

section
variable {X : Cx} {pos : Pos}
def rSortedDI : List V → Hp → VK → Prop := fun xs H Q => ∃ (a : Addr) (kvs : List (Key × V)) (ks : List Int), xs = [.ref a] ∧ Rd H a (.dK kvs) ∧ kvs.map (·.1) = ks.map Sum.inl ∧
    ∀ (ys : List Int) (p : Addr), ys.Perm ks → ys.Pairwise (· ≤ ·) → H p = none → Q (.ref p) (upd H p (.lst (ys.map V.int)))
theorem call_sortedDI (hcalm : X.calm = true) : CallR X (.builtin "sorted") rSortedDI := by
  intro pins s σ H xs us Q I r q
  obtain ⟨a, kvs, ks, ex, hd, hks, q⟩ := q
  subst ex
  obtain ⟨u, eu, rx⟩ := vals1 r
  subst eu
  cases rx
  obtain ⟨z, lo, vs, rel, dd⟩ := dk_rd I.hok hd
  obtain ⟨ep, hat⟩ := dd.dictAt
  have hkeys : vs.map (·.1) = ks.map Sum.inl := rel.keys.symm.trans hks
  have hl : vs.length = ks.length := by
    have e := congrArg List.length hkeys
    rw [List.length_map, List.length_map] at e
    exact e
  have h16 : vs.length ≤ sizeLine := by rw [← rel.length]; exact z
  refine Calls.call_function_entry PyProof.Rows.kind_sorted PyProof.Rows.plain_sorted PyProof.Rows.entry_sorted (PyProof.Rows.args_sorted1 _) ?_
  unfold Builtin.«sorted»
  refine wpAny_bind (m := checkCount "sorted" 1 1 _) (wpAny_pure ?_)
  refine wpAny_bind (PySem.W.kdu_collect (A := X.A.in1) (PySem.W.kdl_dict (knd := mixKind X.prog X.w) (kvs := vs) (ep := ep) lo) (I.ok.hd hcalm) hat h16 fun h' tk acc hk hacc => ?_)
  have hal : acc.toList.length = ks.length := by rw [Array.length_toList, hacc.1, hl]
  have hS : IntsAre acc.toList ks := ints_at hal fun j v e => by
    obtain ⟨k, x, e1, e2⟩ := hacc.2 j v (by rw [← Array.getElem?_toList]; exact e)
    have e3 : (vs.map (·.1))[j]? = some k := by rw [List.getElem?_map, e1]; all_goals rfl
    rw [hkeys, List.getElem?_map] at e3
    cases e4 : ks[j]? with
    | none => rw [e4] at e3; cases e3
    | some y =>
      rw [e4] at e3
      have e5 : Sum.inl y = k := Option.some.inj e3
      subst e5
      obtain ⟨t, ev⟩ := Value.isInt_shape (k := y) (v := v) e2
      exact ⟨y, t, rfl, ev⟩
  have I1 : Inv X pins σ H { s with heap := h', toks := tk } := I.kept hk
  have hz2 : acc.toList.length ≤ sizeLine := by rw [hal, ← hl]; exact h16
  refine wpAny_bind (wpAny_newList ?_ hz2)
  have hoL : (h'.push (seqObj "list" acc.toList.toArray 0)).get? h'.objs.size = some (seqObj "list" acc.toList.toArray 0) := Heap.get?_push_size _ rfl
  show wpAny _ _ _ _ _ { s with heap := h'.push (seqObj "list" acc.toList.toArray 0), toks := tk }
  refine wpAny_bind (wpAny_holding (wpAny_call_entry PyProof.Rows.slot_list_sort ⟨_, hoL, rfl⟩ PyProof.Rows.entry_list_sort
    (SrtO.list_sort_ord (s := { s with heap := h'.push (seqObj "list" acc.toList.toArray 0), toks := tk }) SrtO.swo_int hoL hz2 (fun h2 => SrtO.ints_sortable hS h2) fun out h1 h2 => ⟨_, rfl, ?_⟩)
    (PyProof.Rows.args_list_sort _)))
  obtain ⟨k1, k2, k3⟩ := SrtO.ints_out hS h1 h2
  obtain ⟨e', he'⟩ := PyProof.Rows.sortedHeap_at (vs := acc.toList) (out := out.toArray) hoL
  have hlen : ((out.map SrtO.iv).map V.int).length ≤ sizeLine := by
    rw [List.length_map, k2.length_eq, ← hal]
    exact hz2
  refine wpAny_pure ⟨_, rfl, .ref h'.objs.size, upd H h'.objs.size (.lst ((out.map SrtO.iv).map V.int)), I1.laid (t' := tk) (fun b u e => ?_) (Nat.le_refl _)
    (show ObjOk X.prog X.w _ _ _ (.lst ((out.map SrtO.iv).map V.int)) from ⟨hlen, out, e', vals_of_ints k1, he'⟩), rfl, q _ _ k2 k3 (I1.hok.fresh (Nat.le_refl _))⟩
  have hb : b < h'.objs.size := Heap.lt_size e
  rw [PyProof.Rows.sortedHeap_old (Nat.ne_of_lt hb) (by rw [size_push']; exact Nat.lt_succ_of_lt hb)]
  exact Heap.get?_push_of_some _ e
end

/-! ### a dict whose keys are ways, all its values True -/
def pairK (p : Nat × Nat) : NestedKey := .tup [.num p.1, .num p.2]
def wayK (r : Way) : NestedKey := .tup (r.map pairK)
theorem pairK_inj {p q : Nat × Nat} (h : pairK p = pairK q) : p = q := by
  unfold pairK at h
  injection h with h
  injection h with h1 h2
  injection h1 with h1
  injection h2 with h2 _
  injection h2 with h2
  exact Prod.ext (by omega) (by omega)
theorem wayK_inj {r q : Way} (h : wayK r = wayK q) : r = q := by
  unfold wayK at h
  injection h with h
  exact List.map_inj_right (f := pairK) (fun _ _ e => pairK_inj e) |>.mp h
theorem reads_pair {h : Heap} {v : Value} {p : Nat × Nat} {as : List Addr} (r : Reads h v (pairD p) as) : NestedIs h (pairK p) v := by
  unfold pairD at r
  cases r with
  | tuple h1 h2 h3 h4 =>
    refine .tup h1 h2 h3 ?_
    rename_i vs n
    obtain ⟨l⟩ := vs
    cases h4 with
    | cons a b =>
      cases b with
      | cons c d =>
        cases a; cases c; cases d
        exact .cons (.int _ _) (.cons (.int _ _) .nil)
theorem readsAll_pairs {h : Heap} : ∀ {r : Way} {vs : List Value} {as : List Addr}, ReadsAll h vs (r.map pairD) as → NestedAll h (r.map pairK) vs
  | [], _, _, x => by cases x; exact .nil
  | p :: r, _, _, x => by
    cases x with
    | cons a b => exact .cons (reads_pair a) (readsAll_pairs b)
theorem reads_way {h : Heap} {v : Value} {r : Way} {as : List Addr} (x : Reads h v (wayD r) as) : NestedIs h (wayK r) v := by
  unfold wayD at x
  cases x with
  | tuple h1 h2 h3 h4 => exact .tup h1 h2 h3 (readsAll_pairs h4)
theorem depth_pairsK : ∀ r : Way, NestedKey.depthAll (r.map pairK) ≤ 1
  | [] => by simp [NestedKey.depthAll]
  | p :: r => by
    have := depth_pairsK r
    rw [List.map_cons, NestedKey.depthAll]
    have e : NestedKey.depth (pairK p) = 1 := by simp [pairK, NestedKey.depth, NestedKey.depthAll]
    rw [e]
    omega
theorem depth_wayK (r : Way) : (wayK r).depth ≤ 8 := by
  have := depth_pairsK r
  unfold wayK
  rw [NestedKey.depth]
  omega

/-- the entries of the dict: the ways and the tuples that stand for them -/
def ndEntry (w : World) (x : Way × Addr) : DictEntry := ⟨(wayK x.1).hash w, .ref x.2, .bool true⟩
def ndP (w : World) (d : Addr) (xs : List (Way × Addr)) (h : Heap) : Prop :=
  (d == sysModules) = false ∧ ∃ o es ep, h.get? d = some o ∧ o.ExactDict ∧ o.data = .dict es ep ∧ es.toList = xs.map (ndEntry w)
def ND (w : World) (d : Addr) (xs : List (Way × Addr)) : HO := .ext (ndP w d xs)
/-- the keys are tuples that stand there -/
def NDKeys (K : PySem.W.Frag) (H : Hp) (xs : List (Way × Addr)) : Prop := (xs.map (·.1)).Nodup ∧ ∀ x ∈ xs, Dp K H (.ref x.2) (wayD x.1)
def ndPut (xs : List (Way × Addr)) (r : Way) (a : Addr) : List (Way × Addr) := if r ∈ xs.map (·.1) then xs else xs ++ [(r, a)]
theorem nd_ok {P : Program} {w : World} {H : Hp} {h : Heap} {d : Addr} {xs : List (Way × Addr)} (x : ndP w d xs h) : ObjOk P w H h d (ND w d xs) := by
  obtain ⟨hd, o, es, ep, ho, hx, hdat, hes⟩ := id x
  refine ⟨x, ⟨o, ho⟩, fun h1 h2 p k => ?_⟩
  obtain ⟨_, o, es, ep, ho, r⟩ := p
  exact ⟨hd, o, es, ep, k _ ho, r⟩
def ndX (x : Way × Addr) : NestedKey × Addr × Value := (wayK x.1, x.2, .bool true)
section
variable {X : Cx} {pos : Pos} {pins : List (Addr × Obj)} {s : Shared} {σ : L2.St} {H : Hp} {d : Addr} {xs : List (Way × Addr)}
theorem nd_rd (I : Inv X pins σ H s) (hd : H d = some (ND X.w d xs)) : ndP X.w d xs s.heap := (I.hok d _ hd).1
theorem nd_is {a : Addr} {r : Way} (I : Inv X pins σ H s) (h : Dp X.K H (.ref a) (wayD r)) : (nestedKind X.prog X.w).is s.heap (wayK r) a := by
  obtain ⟨as, q⟩ := Dp.reads I _ _ _ h (show RelV (.ref a) (Value.ref a) from rfl)
  exact ⟨reads_way q, depth_wayK r⟩
theorem nd_of (I : Inv X pins σ H s) (hd : H d = some (ND X.w d xs)) (hk : NDKeys X.K H xs) : s.heap.DictOfH (nestedKind X.prog X.w) d (xs.map ndX) := by
  obtain ⟨_, o, es, ep, ho, hx, hdat, hes⟩ := nd_rd I hd
  refine ⟨o, es, ep, ho, hx, hdat, ?_, ?_, ?_⟩
  · rw [hes, List.map_map]
    rfl
  · intro y hy
    obtain ⟨x, hx, rfl⟩ := List.mem_map.mp hy
    exact nd_is I (hk.2 x hx)
  · rw [List.map_map]
    have e : ((fun x => x.1) ∘ ndX : Way × Addr → NestedKey) = wayK ∘ (fun x => x.1) := rfl
    rw [e, ← List.map_map]
    exact hk.1.map (f := wayK) (fun a b h q => h (wayK_inj q))
/-- {} -/
def tDNewN (w : World) : TE := fun _ H Q => ∀ p, H p = none → Q (.ref p) (upd H p (ND w p []))
theorem pe_dnewN : PE X (.Dict [] [] pos) (tDNewN X.w) := ⟨fun pins s σ H Q I h =>
  wpAny_Dict_empty ⟨.ref s.heap.objs.size, _, I.laid (a := s.heap.objs.size) (o := ND X.w s.heap.objs.size []) (t' := s.toks) (fun _ _ q => Heap.get?_push_of_some _ q) (Nat.le_refl _)
    (nd_ok ⟨beq_eq_false_iff_ne.mpr (Ne.symm (Nat.ne_of_lt I.big)), _, #[], 0, Heap.get?_push_size _ rfl, ⟨rfl, rfl, rfl⟩, rfl, rfl⟩), rfl, h _ (I.hok.fresh (Nat.le_refl _))⟩⟩
theorem atKey_nd (r : Way) : (atKey (xs.map ndX) (wayK r)).isSome = decide (r ∈ xs.map (·.1)) := by
  induction xs with
  | nil => simp [atKey]
  | cons x xs ih =>
    rw [List.map_cons, List.map_cons]
    by_cases h : x.1 = r
    · subst h
      simp [atKey, ndX]
    · have h2 : ¬ (wayK x.1 = wayK r) := fun q => h (wayK_inj q)
      have e : atKey (ndX x :: xs.map ndX) (wayK r) = atKey (xs.map ndX) (wayK r) := by
        unfold atKey
        rw [List.find?_cons_of_neg (by simp [ndX, h2])]
      rw [e, ih]
      have h3 : ¬ r = x.1 := fun q => h q.symm
      simp [h3]
theorem stored_nd (r : Way) (a : Addr) : storedH (xs.map ndX) (wayK r) a (.bool true) = (ndPut xs r a).map ndX := by
  unfold storedH ndPut
  rw [atKey_nd]
  by_cases h : r ∈ xs.map (·.1)
  · rw [if_pos (decide_eq_true h), if_pos h]
    rw [List.map_map]
    refine List.map_congr_left fun x _ => ?_
    show putAt _ _ (ndX x) = ndX x
    unfold putAt
    split <;> rfl
  · rw [if_neg (by simpa using h), if_neg h]
    simp [ndX]
/-- d[r] = True -/
def rSetN (K : PySem.W.Frag) (w : World) : V → V → V → Hp → (Hp → Prop) → Prop := fun o i v H Q => ∃ d a xs r, o = .ref d ∧ i = .ref a ∧ v = .bl true ∧ H d = some (ND w d xs) ∧ NDKeys K H xs ∧ Dp K H (.ref a) (wayD r) ∧ xs.length ≤ 1000 ∧
  Q (upd H d (ND w d (ndPut xs r a)))
theorem set_nd (hu : X.A.units + 20 < cLine) : PSet X (rSetN X.K X.w) := by
  intro pins s σ H o i v ov iv u Q I ro ri rv h
  obtain ⟨d, a, xs, r, rfl, rfl, rfl, hd, hk, ha, hz, q⟩ := h
  cases ro
  cases ri
  cases rv
  have hof := nd_of I hd hk
  have hlo := (nd_rd I hd).1
  refine wpAny_setItem_heap (knd := nestedKind X.prog X.w) (by show X.A.in1.units + 8 < cLine; show X.A.units + 1 + 8 < cLine; omega) (nd_is I ha) hof (fun h' hm' hs => ?_) (by rw [List.length_map]; exact Nat.le_trans hz (by decide))
  rw [stored_nd] at hm'
  obtain ⟨o2, es, ep, ho2, hx2, hdat2, hes2, _, _⟩ := hm'
  have new : ndP X.w d (ndPut xs r a) h' := ⟨hlo, o2, es, ep, ho2, hx2, hdat2, by rw [hes2, List.map_map]; rfl⟩
  exact ⟨_, I.write (e := d) (o := ND X.w d (ndPut xs r a)) (by rw [hd]; trivial) (.inl rfl) (fun b ob hb e => (hs.2 b hb).trans e) ⟨_, ho2⟩ (nd_ok new), q⟩
/-- len(d) -/
def rLenN (w : World) : List V → Hp → VK → Prop := fun vs H Q => ∃ d xs, vs = [.ref d] ∧ H d = some (ND w d xs) ∧ xs.length ≤ 1000 ∧ Q (.int (xs.length : Nat)) H
theorem call_lenN : CallR X (.builtin "len") (rLenN X.w) := by
  intro pins s σ H vs us Q I r h
  obtain ⟨d, xs, rfl, hd, hz, q⟩ := h
  obtain ⟨u, rfl, ru⟩ := r.one
  cases (show u = Value.ref d from ru)
  obtain ⟨hlo, o, es, ep, ho, hx, hdat, hes⟩ := nd_rd I hd
  have hraw : s.heap.DictRaw d es ep := ⟨o, ho, hx, hdat⟩
  have hsz : es.size = xs.length := by rw [← Array.length_toList, hes, List.length_map]
  have hz2 : es.size ≤ sizeLine := by rw [hsz]; exact Nat.le_trans hz (by decide)
  refine PyProof.Rows.call_len_slot (n := es.size) hraw.typeIs F.slot_dict_len (fun Q' hq => call_len_raw hlo hraw hq) (by omega) (by rw [sizeLine_eq] at hz2; omega) ?_
  rw [hsz]
  exact ⟨.int _, H, I.tok _, ⟨_, rfl⟩, q⟩
/-- list(d) -/
def rListN (w : World) : List V → Hp → VK → Prop := fun vs H Q => ∃ d xs, vs = [.ref d] ∧ H d = some (ND w d xs) ∧ xs.length ≤ 1000 ∧ ∀ p, H p = none → Q (.ref p) (upd H p (.lst (xs.map fun x => .ref x.2)))
theorem refs_at : ∀ {us : List Value} {ks : List Addr}, us.length = ks.length → (∀ (j : Nat) (v : Value), us[j]? = some v → ∃ x, ks[j]? = some x ∧ v = Value.ref x) → Vals (ks.map V.ref) us
  | [], [], _, _ => .nil
  | u :: us, k :: ks, hl, h => by
    obtain ⟨x, e1, e2⟩ := h 0 u rfl
    have e1' : k = x := Option.some.inj e1
    subst e1'
    subst e2
    refine .cons rfl (refs_at (by simpa using hl) fun j v e => ?_)
    obtain ⟨x, a, b⟩ := h (j + 1) v (by simpa using e)
    exact ⟨x, by simpa using a, b⟩
  | [], _ :: _, hl, _ => by simp at hl
  | _ :: _, [], hl, _ => by simp at hl
theorem call_listN (hc : X.calm = true) : CallR X (.type "list") (rListN X.w) := by
  intro pins s σ H vs us Q I r h
  obtain ⟨d, xs, rfl, hd, hz, q⟩ := h
  obtain ⟨u, rfl, ru⟩ := r.one
  cases (show u = Value.ref d from ru)
  obtain ⟨hlo, o, es, ep, ho, hx, hdat, hes⟩ := nd_rd I hd
  have hraw : s.heap.DictRaw d es ep := ⟨o, ho, hx, hdat⟩
  have hsz : es.size = xs.length := by rw [← Array.length_toList, hes, List.length_map]
  have hz2 : es.size ≤ sizeLine := by rw [hsz]; exact Nat.le_trans hz (by decide)
  refine PySem.W.kdl_call (PySem.KdlSrc.rawDict hlo) (I.ok.hd hc) hraw hz2 fun h' tk acc c hk hS hacc => ?_
  have hv : Vals ((xs.map (·.2)).map V.ref) acc.toList := refs_at (by rw [Array.length_toList, hacc.1, hsz, List.length_map]) fun j v e => by
    obtain ⟨hi, ev⟩ := hacc.2 j v (by rw [← Array.getElem?_toList]; exact e)
    have e2 : es.toList[j]? = some es[j] := by simp [hi]
    rw [hes, List.getElem?_map] at e2
    cases e3 : xs[j]? with
    | none => rw [e3] at e2; cases e2
    | some x =>
      rw [e3] at e2
      refine ⟨x.2, by rw [List.getElem?_map, e3]; rfl, ?_⟩
      rw [ev, ← Option.some.inj e2]
      rfl
  have hv : Vals (xs.map fun x => V.ref x.2) acc.toList := by rw [List.map_map] at hv; exact hv
  exact ⟨.ref s.heap.objs.size, upd H s.heap.objs.size (.lst (xs.map fun x => .ref x.2)), I.laid (t' := tk) (fun b o e => hk b o e) (Nat.le_refl _) (show ObjOk X.prog X.w _ _ _ (.lst (xs.map fun x => V.ref x.2)) from ⟨by rw [List.length_map]; exact Nat.le_trans hz (by decide), acc.toList, c, hv, by rw [Array.toArray_toList]; exact hS⟩), rfl, q _ (I.hok.fresh (Nat.le_refl _))⟩
end
end K43
set_option Elab.async false
set_option linter.all false
set_option maxRecDepth 100000
set_option maxHeartbeats 4000000
/-! k43, part S0: predicates of values that stand while the heap grows; what an expression evaluates to. -/
namespace K43
open PySem PySem.Spec L2 Evl

/-! ### data stand while the heap grows -/
mutual
theorem Dp.up {K : PySem.W.Frag} {H H' : Hp} (e : Ex H H') : ∀ {v : V} {d : PyData}, Dp K H v d → Dp K H' v d
  | _, _, .non => .non
  | _, _, .bl b => .bl b
  | _, _, .int i => .int i
  | _, _, .str x => .str x
  | _, _, .lst h a => .lst (ex_l e h) (DpAll.up e a)
  | _, _, .tup h a => .tup (ex_t e h) (DpAll.up e a)
theorem DpAll.up {K : PySem.W.Frag} {H H' : Hp} (e : Ex H H') : ∀ {vs : List V} {ds : List PyData}, DpAll K H vs ds → DpAll K H' vs ds
  | _, _, .nil => .nil
  | _, _, .cons h t => .cons (Dp.up e h) (DpAll.up e t)
end
theorem DpAll.app {K : PySem.W.Frag} {H : Hp} : ∀ {xs ys : List V} {ds es : List PyData}, DpAll K H xs ds → DpAll K H ys es → DpAll K H (xs ++ ys) (ds ++ es)
  | _, _, _, _, .nil, h => h
  | _, _, _, _, .cons a t, h => .cons a (DpAll.app t h)
theorem DpAll.snoc {K : PySem.W.Frag} {H : Hp} {xs : List V} {ds : List PyData} {y : V} {e : PyData} (h : DpAll K H xs ds) (q : Dp K H y e) : DpAll K H (xs ++ [y]) (ds ++ [e]) := DpAll.app h (.cons q .nil)
theorem DpAll.getd {K : PySem.W.Frag} {H : Hp} : ∀ {xs : List V} {ds : List PyData} {i : Nat} {d : PyData}, DpAll K H xs ds → ds[i]? = some d → ∃ x, xs[i]? = some x ∧ Dp K H x d
  | _, _, 0, _, .cons d _, e => by cases e; exact ⟨_, rfl, d⟩
  | _, _, i + 1, _, .cons _ t, e => by
    obtain ⟨d, h1, h2⟩ := DpAll.getd (i := i) t (by simpa using e)
    exact ⟨d, by simpa using h1, h2⟩
  | _, _, _, _, .nil, e => by simp at e
theorem DpAll.take {K : PySem.W.Frag} {H : Hp} : ∀ {xs : List V} {ds : List PyData} (n : Nat), DpAll K H xs ds → DpAll K H (xs.take n) (ds.take n)
  | _, _, 0, _ => by rw [List.take_zero, List.take_zero]; exact .nil
  | _, _, _ + 1, .nil => by rw [List.take_nil, List.take_nil]; exact .nil
  | _, _, n + 1, .cons a t => by rw [List.take_succ_cons, List.take_succ_cons]; exact .cons a (DpAll.take n t)
theorem DpAll.drop {K : PySem.W.Frag} {H : Hp} : ∀ {xs : List V} {ds : List PyData} (n : Nat), DpAll K H xs ds → DpAll K H (xs.drop n) (ds.drop n)
  | _, _, 0, h => by rw [List.drop_zero, List.drop_zero]; exact h
  | _, _, _ + 1, .nil => by rw [List.drop_nil, List.drop_nil]; exact .nil
  | _, _, n + 1, .cons a t => by rw [List.drop_succ_cons, List.drop_succ_cons]; exact DpAll.drop n t
theorem DpAll.rev {K : PySem.W.Frag} {H : Hp} : ∀ {xs : List V} {ds : List PyData}, DpAll K H xs ds → DpAll K H xs.reverse ds.reverse
  | _, _, .nil => .nil
  | _, _, .cons a t => by rw [List.reverse_cons, List.reverse_cons]; exact DpAll.snoc (DpAll.rev t) a
theorem Dp.tup_inv {K : PySem.W.Frag} {H : Hp} {v : V} {ds : List PyData} (h : Dp K H v (.tuple ds)) : ∃ a xs, v = .ref a ∧ SqT K H a xs ∧ DpAll K H xs ds := by
  cases h with
  | tup h a => exact ⟨_, _, rfl, h, a⟩
theorem Dp.lst_inv {K : PySem.W.Frag} {H : Hp} {v : V} {ds : List PyData} (h : Dp K H v (.list ds)) : ∃ a xs, v = .ref a ∧ SqL K H a xs ∧ DpAll K H xs ds := by
  cases h with
  | lst h a => exact ⟨_, _, rfl, h, a⟩
theorem Dp.int_inv {K : PySem.W.Frag} {H : Hp} {v : V} {i : Int} (h : Dp K H v (.int i)) : v = .int i := by
  cases h; rfl

/-! ### predicates -/
structure PD where
  p : V → Hp → Prop
  up : ∀ {v : V} {H H' : Hp}, Ex H H' → p v H → p v H'
def pI (i : Int) : PD := ⟨fun v _ => v = .int i, fun _ h => h⟩
def pB (b : Bool) : PD := ⟨fun v _ => v = .bl b, fun _ h => h⟩
def pV (x : V) : PD := ⟨fun v _ => v = x, fun _ h => h⟩
def pD (K : PySem.W.Frag) (d : PyData) : PD := ⟨fun v H => Dp K H v d, fun e h => Dp.up e h⟩
def Alls : List PD → List V → Hp → Prop
  | [], vs, _ => vs = []
  | P :: Ps, vs, H => ∃ v r, vs = v :: r ∧ P.p v H ∧ Alls Ps r H
theorem Alls.up {H H' : Hp} (e : Ex H H') : ∀ {Ps : List PD} {vs : List V}, Alls Ps vs H → Alls Ps vs H'
  | [], _, h => h
  | _ :: _, _, ⟨v, r, e1, h, t⟩ => ⟨v, r, e1, PD.up _ e h, Alls.up e t⟩
theorem Alls.len {H : Hp} : ∀ {Ps : List PD} {vs : List V}, Alls Ps vs H → vs.length = Ps.length
  | [], _, h => by cases h; rfl
  | _ :: _, _, ⟨v, r, e1, h, t⟩ => by subst e1; rw [List.length_cons, List.length_cons, Alls.len t]
/-- a tuple of such values -/
def pT (K : PySem.W.Frag) (Ps : List PD) : PD := ⟨fun v H => ∃ a xs, v = .ref a ∧ SqT K H a xs ∧ Alls Ps xs H, fun e ⟨a, xs, h, h1, h2⟩ => ⟨a, xs, h, ex_t e h1, Alls.up e h2⟩⟩
theorem pD_pT {K : PySem.W.Frag} {ds : List PyData} : ∀ {xs : List V} {H : Hp}, DpAll K H xs ds → Alls (ds.map (pD K)) xs H := by
  induction ds with
  | nil => intro xs H h; cases h; rfl
  | cons d ds ih =>
    intro xs H h
    cases h with
    | cons a t => exact ⟨_, _, rfl, a, ih t⟩
theorem pT_pD {K : PySem.W.Frag} {ds : List PyData} : ∀ {xs : List V} {H : Hp}, Alls (ds.map (pD K)) xs H → DpAll K H xs ds := by
  induction ds with
  | nil => intro xs H h; cases h; exact .nil
  | cons d ds ih =>
    intro xs H h
    obtain ⟨v, r, rfl, a, t⟩ := h
    exact .cons a (ih t)

/-! ### what evaluates to what -/
def EvP (te : TE) (σ : L2.St) (H : Hp) (P : PD) : Prop := ∀ H1, Ex H H1 → ∀ Q : VK, (∀ v H2, Ex H1 H2 → P.p v H2 → Q v H2) → te σ H1 Q
def EvPA (ta : TA) (σ : L2.St) (H : Hp) (Ps : List PD) : Prop := ∀ H1, Ex H H1 → ∀ Q : List V → Hp → Prop, (∀ vs H2, Ex H1 H2 → Alls Ps vs H2 → Q vs H2) → ta σ H1 Q
def RP (r : R2) (P P' : PD) (H : Hp) (R : PD) : Prop := ∀ x y H1, Ex H H1 → P.p x H1 → P'.p y H1 → ∀ Q : VK, (∀ z H2, Ex H1 H2 → R.p z H2 → Q z H2) → r x y H1 Q
def UP (r : V → Hp → VK → Prop) (P : PD) (H : Hp) (R : PD) : Prop := ∀ x H1, Ex H H1 → P.p x H1 → ∀ Q : VK, (∀ z H2, Ex H1 H2 → R.p z H2 → Q z H2) → r x H1 Q
def CP (r : List V → Hp → VK → Prop) (Ps : List PD) (H : Hp) (R : PD) : Prop := ∀ vs H1, Ex H H1 → Alls Ps vs H1 → ∀ Q : VK, (∀ z H2, Ex H1 H2 → R.p z H2 → Q z H2) → r vs H1 Q
def SPP (sp : Sp) (Ps : List PD) (H : Hp) (R : PD) : Prop := ∀ vs H1, Ex H H1 → Alls Ps vs H1 → ∀ (Q : VK) (E : XK), (∀ z H2, Ex H1 H2 → R.p z H2 → Q z H2) → sp vs H1 Q E

section
variable {K : PySem.W.Frag} {σ : L2.St} {H H' : Hp} {ta tb te tx : TE} {t u : TT} {x y z v : V} {r : R2} {P P' R : PD}
theorem EvP.mono (e : Ex H H') (h : EvP te σ H P) : EvP te σ H' P := fun H1 a Q q => h H1 (e.trans a) Q q
theorem EvPA.mono {ta : TA} {Ps : List PD} (e : Ex H H') (h : EvPA ta σ H Ps) : EvPA ta σ H' Ps := fun H1 a Q q => h H1 (e.trans a) Q q
theorem EvP.imp (h : EvP te σ H P) (k : ∀ v H', Ex H H' → P.p v H' → R.p v H') : EvP te σ H R := fun H1 a Q q => h H1 a _ fun v H2 e p => q v H2 e (k v H2 (a.trans e) p)
theorem EvP.go (h : EvP te σ H P) {Q : VK} (q : ∀ v H2, Ex H H2 → P.p v H2 → Q v H2) : te σ H Q := h H (Ex.refl H) Q q
theorem EvPA.go {ta : TA} {Ps : List PD} (h : EvPA ta σ H Ps) {Q : List V → Hp → Prop} (q : ∀ vs H2, Ex H H2 → Alls Ps vs H2 → Q vs H2) : ta σ H Q := h H (Ex.refl H) Q q
theorem ep_var {i : Nat} (h : σ[i]? = some (some v)) (p : P.p v H) : EvP (tVar i) σ H P := fun H1 e _ q => ⟨v, h, q v H1 (Ex.refl H1) (P.up e p)⟩
theorem ep_vv {i : Nat} (h : σ[i]? = some (some v)) : EvP (tVar i) σ H (pV v) := ep_var h rfl
theorem ep_vi {i : Nat} {n : Int} (h : σ[i]? = some (some (.int n))) : EvP (tVar i) σ H (pI n) := ep_var h rfl
theorem ep_i {n : Int} : EvP (tC (.int n)) σ H (pI n) := fun H1 _ _ q => q _ H1 (Ex.refl H1) rfl
theorem ep_b {b : Bool} : EvP (tC (.bl b)) σ H (pB b) := fun H1 _ _ q => q _ H1 (Ex.refl H1) rfl
theorem ep_c : EvP (tC v) σ H (pV v) := fun H1 _ _ q => q _ H1 (Ex.refl H1) rfl
theorem ep_op (ha : EvP ta σ H P) (hb : EvP tb σ H P') (hr : RP r P P' H R) : EvP (tOp r ta tb) σ H R := fun H1 e Q q =>
  ha H1 e _ fun x H2 e2 p => hb H2 (e.trans e2) _ fun y H3 e3 p' => hr x y H3 ((e.trans e2).trans e3) (P.up e3 p) p' Q fun z H4 e4 pz => q z H4 ((e2.trans e3).trans e4) pz
theorem ep_un {r : V → Hp → VK → Prop} (ha : EvP ta σ H P) (hr : UP r P H R) : EvP (tUn r ta) σ H R := fun H1 e Q q =>
  ha H1 e _ fun x H2 e2 p => hr x H2 (e.trans e2) p Q fun z H3 e3 pz => q z H3 (e2.trans e3) pz
theorem ea_nil : EvPA tNil σ H [] := fun H1 _ _ q => q [] H1 (Ex.refl H1) rfl
theorem ea_cons {tr : TA} {Ps : List PD} (h : EvP te σ H P) (hr : EvPA tr σ H Ps) : EvPA (tCons te tr) σ H (P :: Ps) := fun H1 e _ q =>
  h H1 e _ fun v H2 e2 p => hr H2 (e.trans e2) _ fun vs H3 e3 ps => q _ H3 (e2.trans e3) ⟨v, vs, rfl, P.up e3 p, ps⟩
theorem ep_cb {r : List V → Hp → VK → Prop} {ta : TA} {Ps : List PD} (h : EvPA ta σ H Ps) (hr : CP r Ps H R) : EvP (tCB r ta) σ H R := fun H1 e Q q =>
  h H1 e _ fun vs H2 e2 ps => hr vs H2 (e.trans e2) ps Q fun z H3 e3 pz => q z H3 (e2.trans e3) pz
theorem ep_callS {sp : Sp} {E : XK} {ta : TA} {Ps : List PD} (h : EvPA ta σ H Ps) (hs : SPP sp Ps H R) : EvP (tCall sp [] E ta) σ H R := fun H1 e Q q =>
  h H1 e _ fun vs H2 e2 ps => by
    rw [List.append_nil]
    exact hs vs H2 (e.trans e2) ps Q E fun z H3 e3 pz => q z H3 (e2.trans e3) pz
theorem ep_tup {ta : TA} {Ps : List PD} (h : EvPA ta σ H Ps) (hl : Ps.length ≤ 1000) : EvP (tTup ta) σ H (pT K Ps) := fun H1 e _ q =>
  h H1 e _ fun vs H2 e2 ps => ⟨sz_of (by rw [Alls.len ps]; omega), fun p hp => q _ _ (e2.trans (Ex.new hp)) ⟨p, vs, rfl, SqT.of upd_same, Alls.up (Ex.new hp) ps⟩⟩
theorem ep_and {a b : Bool} (h1 : EvP ta σ H (pB a)) (h2 : a = true → EvP tb σ H (pB b)) : EvP (tAndV ta tb) σ H (pB (a && b)) := fun H1 e Q q => h1 H1 e _ fun x H2 e2 p => ⟨a, p, by
  cases a with
  | true =>
    show tb σ H2 Q
    exact h2 rfl H2 (e.trans e2) Q fun v H3 e3 p => q v H3 (e2.trans e3) p
  | false =>
    show Q (.bl false) H2
    exact q _ H2 e2 rfl⟩
theorem ep_or {a b : Bool} (h1 : EvP ta σ H (pB a)) (h2 : a = false → EvP tb σ H (pB b)) : EvP (tOrV ta tb) σ H (pB (a || b)) := fun H1 e Q q => h1 H1 e _ fun x H2 e2 p => ⟨a, p, by
  cases a with
  | true =>
    show Q (.bl true) H2
    exact q _ H2 e2 rfl
  | false =>
    show tb σ H2 Q
    exact h2 rfl H2 (e.trans e2) Q fun v H3 e3 p => q v H3 (e2.trans e3) p⟩
theorem ep_not {a : Bool} (h1 : EvP ta σ H (pB a)) : EvP (tNotV ta) σ H (pB (!a)) := fun H1 e Q q => h1 H1 e _ fun x H2 e2 p => ⟨a, p, q _ H2 e2 rfl⟩
theorem ep_if {b : Bool} (h : EvT t σ H b) (h1 : b = true → EvP ta σ H P) (h2 : b = false → EvP tb σ H P) : EvP (tIf t ta tb) σ H P := fun H1 e Q q => h H1 e _ fun H2 e2 => by
  cases b with
  | true =>
    show ta σ H2 Q
    exact h1 rfl H2 (e.trans e2) Q fun v H3 e3 p => q v H3 (e2.trans e3) p
  | false =>
    show tb σ H2 Q
    exact h2 rfl H2 (e.trans e2) Q fun v H3 e3 p => q v H3 (e2.trans e3) p
theorem pt_test {b : Bool} (h : EvP te σ H (pB b)) : EvT (tTest te) σ H b := fun H1 e _ q => h H1 e _ fun x H2 e2 p => ⟨b, p, q H2 e2⟩
theorem pt_B {b : Bool} (h : EvP te σ H (pB b)) : EvT (tB te) σ H b := fun H1 e _ q => h H1 e _ fun x H2 e2 p => ⟨b, p, q H2 e2⟩
theorem ep_bis {a b : Bool} (h : EvP te σ H (pB a)) (e : a = b) : EvP te σ H (pB b) := e ▸ h
theorem ep_iis {a b : Int} (h : EvP te σ H (pI a)) (e : a = b) : EvP te σ H (pI b) := e ▸ h
theorem ep_is (h : EvP te σ H P) (e : P = R) : EvP te σ H R := e ▸ h

/-! ### operators -/
theorem rp_I0 {g : Int → Int → Int} {i j : Int} : RP (rI0 fun i j => .int (g i j)) (pI i) (pI j) H (pI (g i j)) := fun x y H1 _ p p' Q q => ⟨i, j, p, p', q _ H1 (Ex.refl H1) rfl⟩
theorem rp_I0b {g : Int → Int → Bool} {i j : Int} : RP (rI0 fun i j => .bl (g i j)) (pI i) (pI j) H (pB (g i j)) := fun x y H1 _ p p' Q q => ⟨i, j, p, p', q _ H1 (Ex.refl H1) rfl⟩
theorem rp_I {C : Int → Int → Prop} {g : Int → Int → Int} {i j : Int} (hc : C i j) : RP (rI C fun i j => .int (g i j)) (pI i) (pI j) H (pI (g i j)) := fun x y H1 _ p p' Q q => ⟨i, j, p, p', hc, q _ H1 (Ex.refl H1) rfl⟩
theorem rp_eqI {i j : Int} : RP rEq (pI i) (pI j) H (pB (decide (i = j))) := fun x y H1 _ p p' Q q => by
  obtain rfl : x = .int i := p
  obtain rfl : y = .int j := p'
  refine ⟨rfl, ?_⟩
  have e : decide (V.int i = V.int j) = decide (i = j) := by simp
  rw [e]
  exact q _ H1 (Ex.refl H1) rfl
theorem rp_neI {i j : Int} : RP rNe (pI i) (pI j) H (pB (!decide (i = j))) := fun x y H1 _ p p' Q q => by
  obtain rfl : x = .int i := p
  obtain rfl : y = .int j := p'
  refine ⟨rfl, ?_⟩
  have e : decide (V.int i = V.int j) = decide (i = j) := by simp
  rw [e]
  exact q _ H1 (Ex.refl H1) rfl
theorem up_neg {i : Int} : UP (rU fun i => .int (-i)) (pI i) H (pI (-i)) := fun x H1 _ p Q q => ⟨i, p, q _ H1 (Ex.refl H1) rfl⟩
/-- a < b < c as a value -/
theorem ep_chain {tc : TE} {f g : Int → Int → Bool} {i j k : Int} (ha : EvP ta σ H (pI i)) (hb : EvP tb σ H (pI j)) (hc : EvP tc σ H (pI k)) :
    EvP (tChain (rI0 fun i j => .bl (f i j)) (rI0 fun i j => .bl (g i j)) ta tb tc) σ H (pB (f i j && g j k)) := fun H1 e Q q =>
  ha H1 e _ fun x H2 e2 p => hb H2 (e.trans e2) _ fun y H3 e3 p' => ⟨i, j, p, p', f i j, rfl, by
    cases hf : f i j with
    | true =>
      show tc σ H3 _
      refine hc H3 ((e.trans e2).trans e3) _ fun w H4 e4 p4 => ⟨j, k, p', p4, ?_⟩
      have := q (.bl (g j k)) H4 ((e2.trans e3).trans e4) (by rw [hf]; rfl)
      exact this
    | false =>
      show Q (.bl false) H3
      exact q _ H3 (e2.trans e3) (by rw [hf]; rfl)⟩
/-! ### items, slices, len -/
theorem ixN_nat {n j : Nat} (hj : j < n) : ixN n (j : Int) = some j := by
  unfold ixN
  rw [if_pos (by omega), if_pos (by omega)]
  simp
theorem rp_ixT {ds : List PyData} {i : Nat} {d : PyData} (h : ds[i]? = some d) : RP (rIxT K) (pD K (.tuple ds)) (pI (i : Int)) H (pD K d) := fun x y H1 _ p p' Q q => by
  obtain ⟨a, xs, rfl, h1, h2⟩ := Dp.tup_inv p
  obtain rfl : y = .int i := p'
  obtain ⟨z, hz, dz⟩ := DpAll.getd h2 h
  exact ⟨a, xs, i, z, rfl, rfl, h1, atI_nat hz, q z H1 (Ex.refl H1) dz⟩
theorem rp_ixL {ds : List PyData} {i : Nat} {d : PyData} (h : ds[i]? = some d) : RP (rIxL K) (pD K (.list ds)) (pI (i : Int)) H (pD K d) := fun x y H1 _ p p' Q q => by
  obtain ⟨a, xs, rfl, h1, h2⟩ := Dp.lst_inv p
  obtain rfl : y = .int i := p'
  obtain ⟨z, hz, dz⟩ := DpAll.getd h2 h
  exact ⟨a, xs, i, z, rfl, rfl, h1, atI_nat hz, q z H1 (Ex.refl H1) dz⟩
theorem cp_lenT {ds : List PyData} : CP (fun xs H Q => ∃ p ys, xs = [.ref p] ∧ (SqL K H p ys ∨ SqT K H p ys) ∧ Q (.int ys.length) H) [pD K (.tuple ds)] H (pI (ds.length : Nat)) := fun vs H1 _ ps Q q => by
  obtain ⟨v, r, rfl, p, e⟩ := ps
  cases e
  obtain ⟨a, xs, rfl, h1, h2⟩ := Dp.tup_inv p
  exact ⟨a, xs, rfl, .inr h1, q _ H1 (Ex.refl H1) (by rw [DpAll.len h2]; rfl)⟩
theorem cp_lenL {ds : List PyData} : CP (fun xs H Q => ∃ p ys, xs = [.ref p] ∧ (SqL K H p ys ∨ SqT K H p ys) ∧ Q (.int ys.length) H) [pD K (.list ds)] H (pI (ds.length : Nat)) := fun vs H1 _ ps Q q => by
  obtain ⟨v, r, rfl, p, e⟩ := ps
  cases e
  obtain ⟨a, xs, rfl, h1, h2⟩ := Dp.lst_inv p
  exact ⟨a, xs, rfl, .inl h1, q _ H1 (Ex.refl H1) (by rw [DpAll.len h2]; rfl)⟩
/-- t[:n], t[n:] of a tuple of data -/
theorem ep_slTo {ds : List PyData} {n : Nat} (h : EvP te σ H (pD K (.tuple ds))) (hn : EvP tx σ H (pI (n : Int))) : EvP (tSl (rSlA K) te tNoPart (tPart tx)) σ H (pD K (.tuple (ds.take n))) := fun H1 e Q q =>
  h H1 e _ fun v H2 e2 p => hn H2 (e.trans e2) _ fun w H3 e3 p3 => ⟨n, p3, by
    obtain ⟨a, xs, rfl, h1, h2⟩ := Dp.tup_inv (show Dp K H3 v (.tuple ds) from Dp.up e3 p)
    have ei : HT.sIx xs.length xs.length (some (n : Int)) = min n xs.length := HT.sIx_nat _ _ _
    have ec : cutV xs none (some (n : Int)) = xs.take n := by
      unfold cutV
      rw [HT.sIx_none, ei, List.drop_zero, Nat.sub_zero]
      rw [List.take_eq_take_iff]
      omega
    refine ⟨a, xs, rfl, h1, fun hw => ?_, fun hw p hp => ?_⟩
    · have hl : xs.length ≤ n := by rw [ei] at hw; omega
      refine q _ H3 (e2.trans e3) (.tup h1 ?_)
      rw [List.take_of_length_le (by rw [← DpAll.len h2]; exact hl)]
      exact h2
    · rw [ec]
      exact q _ _ ((e2.trans e3).trans (Ex.new hp)) (.tup (SqT.of upd_same) (DpAll.up (Ex.new hp) (DpAll.take n h2)))⟩
theorem ep_slFrom {ds : List PyData} {n : Nat} (h : EvP te σ H (pD K (.tuple ds))) (hn : EvP tx σ H (pI (n : Int))) : EvP (tSl (rSlA K) te (tPart tx) tNoPart) σ H (pD K (.tuple (ds.drop n))) := fun H1 e Q q =>
  h H1 e _ fun v H2 e2 p => hn H2 (e.trans e2) _ fun w H3 e3 p3 => ⟨n, p3, by
    obtain ⟨a, xs, rfl, h1, h2⟩ := Dp.tup_inv (show Dp K H3 v (.tuple ds) from Dp.up e3 p)
    have ei : HT.sIx xs.length 0 (some (n : Int)) = min n xs.length := HT.sIx_nat _ _ _
    have ec : cutV xs (some (n : Int)) none = xs.drop n := by
      unfold cutV
      rw [HT.sIx_none, ei]
      by_cases hc : n ≤ xs.length
      · rw [Nat.min_eq_left hc, List.take_of_length_le (by rw [List.length_drop]; omega)]
      · rw [Nat.min_eq_right (by omega), List.drop_length, List.drop_of_length_le (by omega), List.take_nil]
    refine ⟨a, xs, rfl, h1, fun hw => ?_, fun hw p hp => ?_⟩
    · have hl : n = 0 ∨ xs.length = 0 := by rw [ei] at hw; omega
      refine q _ H3 (e2.trans e3) (.tup h1 ?_)
      have hd := DpAll.len h2
      rcases hl with hl | hl
      · rw [hl, List.drop_zero]; exact h2
      · have e1 : xs = [] := List.eq_nil_of_length_eq_zero hl
        have e2 : ds = [] := List.eq_nil_of_length_eq_zero (by omega)
        rw [e1, e2, List.drop_nil]; exact .nil
    · rw [ec]
      exact q _ _ ((e2.trans e3).trans (Ex.new hp)) (.tup (SqT.of upd_same) (DpAll.up (Ex.new hp) (DpAll.drop n h2)))⟩
/-- t + u, tuples of data -/
theorem rp_catT {ds es : List PyData} (hl : ds.length + es.length ≤ 100000) : RP (rCatA K) (pD K (.tuple ds)) (pD K (.tuple es)) H (pD K (.tuple (ds ++ es))) := fun x y H1 _ p p' Q q => by
  obtain ⟨a, xs, rfl, h1, h2⟩ := Dp.tup_inv p
  obtain ⟨b, ys, rfl, h3, h4⟩ := Dp.tup_inv p'
  have l1 := DpAll.len h2
  have l2 := DpAll.len h4
  refine ⟨a, b, xs, ys, rfl, rfl, h1, h3, sz_of (by omega), fun hx => ?_, fun hx hy => ?_, fun hx hy p hp => ?_⟩
  · subst hx
    cases h2
    exact q _ H1 (Ex.refl H1) (.tup h3 h4)
  · subst hy
    cases h4
    refine q _ H1 (Ex.refl H1) (.tup h1 ?_)
    rw [List.append_nil]; exact h2
  · exact q _ _ (Ex.new hp) (.tup (SqT.of upd_same) (DpAll.up (Ex.new hp) (DpAll.app h2 h4)))
/-- x in t, x not in t, ints -/
theorem inV_ints (i : Int) : ∀ ns : List Int, inV (.int i) (ns.map V.int) = decide (i ∈ ns)
  | [] => by simp [inV]
  | n :: ns => by
    have h := inV_ints i ns
    unfold inV at h ⊢
    rw [List.map_cons, List.any_cons, h]
    have e : eqV (.int n) (.int i) = decide (n = i) := by
      show (n == i) = _
      rfl
    rw [e]
    by_cases c : n = i
    · subst c; simp
    · have c' : ¬ i = n := fun q => c q.symm
      simp [c, c']
theorem DpAll.ints {H : Hp} : ∀ {xs : List V} {ns : List Int}, DpAll K H xs (ns.map .int) → xs = ns.map V.int
  | _, [], h => by cases h; rfl
  | _, n :: ns, h => by
    cases h with
    | cons a t =>
      rw [Dp.int_inv a, DpAll.ints t]
      rfl
theorem ints_DpAll {H : Hp} : ∀ {ns : List Int}, DpAll K H (ns.map V.int) (ns.map .int)
  | [] => .nil
  | n :: ns => .cons (.int n) ints_DpAll
theorem all_flat_ints : ∀ ns : List Int, (ns.map V.int).all flatV = true
  | [] => rfl
  | n :: ns => by rw [List.map_cons, List.all_cons, all_flat_ints ns]; rfl
theorem rp_inT {i : Int} {ns : List Int} : RP (rIn K false) (pI i) (pD K (.tuple (ns.map .int))) H (pB (decide (i ∈ ns))) := fun x y H1 _ p p' Q q => by
  obtain rfl : x = .int i := p
  obtain ⟨a, xs, rfl, h1, h2⟩ := Dp.tup_inv p'
  obtain rfl := DpAll.ints h2
  refine ⟨a, _, rfl, .inr h1, rfl, all_flat_ints ns, ?_⟩
  exact q _ H1 (Ex.refl H1) (by rw [inV_ints]; rfl)
theorem rp_ninT {i : Int} {ns : List Int} : RP (rIn K true) (pI i) (pD K (.tuple (ns.map .int))) H (pB (!decide (i ∈ ns))) := fun x y H1 _ p p' Q q => by
  obtain rfl : x = .int i := p
  obtain ⟨a, xs, rfl, h1, h2⟩ := Dp.tup_inv p'
  obtain rfl := DpAll.ints h2
  refine ⟨a, _, rfl, .inr h1, rfl, all_flat_ints ns, ?_⟩
  exact q _ H1 (Ex.refl H1) (by rw [inV_ints]; rfl)
theorem rp_inL {i : Int} {ns : List Int} : RP (rIn K false) (pI i) (pD K (.list (ns.map .int))) H (pB (decide (i ∈ ns))) := fun x y H1 _ p p' Q q => by
  obtain rfl : x = .int i := p
  obtain ⟨a, xs, rfl, h1, h2⟩ := Dp.lst_inv p'
  obtain rfl := DpAll.ints h2
  refine ⟨a, _, rfl, .inl h1, rfl, all_flat_ints ns, ?_⟩
  exact q _ H1 (Ex.refl H1) (by rw [inV_ints]; rfl)
theorem rp_ninL {i : Int} {ns : List Int} : RP (rIn K true) (pI i) (pD K (.list (ns.map .int))) H (pB (!decide (i ∈ ns))) := fun x y H1 _ p p' Q q => by
  obtain rfl : x = .int i := p
  obtain ⟨a, xs, rfl, h1, h2⟩ := Dp.lst_inv p'
  obtain rfl := DpAll.ints h2
  refine ⟨a, _, rfl, .inl h1, rfl, all_flat_ints ns, ?_⟩
  exact q _ H1 (Ex.refl H1) (by rw [inV_ints]; rfl)
/-! ### isinstance -/
theorem tyx_tup {a : Addr} {xs : List V} (h : SqT K H a xs) : TyX K H (.ref a) (.type "tuple") := by
  rcases h with (h | ⟨o, h⟩) | ⟨o, its, n, h, c, _⟩
  · exact .base (.tup h)
  · exact .fTuple h
  · exact .kTuple h c
theorem tyx_lst {a : Addr} {xs : List V} (h : SqL K H a xs) : TyX K H (.ref a) (.type "list") := by
  rcases h with (h | ⟨o, h⟩) | ⟨o, its, n, h, c, _⟩
  · exact .base (.lst h)
  · exact .base (.frz h)
  · exact .kList h c
theorem cp_isiT {ds : List PyData} : CP (rIsi K) [pD K (.tuple ds), pV (.ty "tuple")] H (pB true) := fun vs H1 _ ps Q q => by
  obtain ⟨v, r, rfl, p, v2, r2, rfl, p2, e⟩ := ps
  cases e
  cases p2
  obtain ⟨a, xs, rfl, h1, h2⟩ := Dp.tup_inv p
  exact ⟨_, _, _, _, true, rfl, .ty "tuple", tyx_tup h1, kit_ty (by decide +kernel), q _ H1 (Ex.refl H1) rfl⟩
theorem cp_isiI {i : Int} : CP (rIsi K) [pI i, pV (.ty "int")] H (pB true) := fun vs H1 _ ps Q q => by
  obtain ⟨v, r, rfl, p, v2, r2, rfl, p2, e⟩ := ps
  cases e
  cases p2
  cases p
  exact ⟨_, _, _, _, true, rfl, .ty "int", .base (.int i), kit_ty (by decide +kernel), q _ H1 (Ex.refl H1) rfl⟩
theorem cp_isiB {i : Int} : CP (rIsi K) [pI i, pV (.ty "bool")] H (pB false) := fun vs H1 _ ps Q q => by
  obtain ⟨v, r, rfl, p, v2, r2, rfl, p2, e⟩ := ps
  cases e
  cases p2
  cases p
  exact ⟨_, _, _, _, false, rfl, .ty "bool", .base (.int i), kit_ty (by decide +kernel), q _ H1 (Ex.refl H1) rfl⟩

/-! ### statements -/
variable {D : Ends} {tu tw tz : TS} {g : TG}
theorem p_asg {i : Nat} (h : EvP te σ H P) (k : ∀ v H1, Ex H H1 → P.p v H1 → tz D (σ.set i (some v)) H1) : tSeq (tAsg te (gName i)) tz D σ H := h H (Ex.refl H) _ fun v H1 e p => k v H1 e p
theorem p_asg1 {i : Nat} (h : EvP te σ H P) (k : ∀ v H1, Ex H H1 → P.p v H1 → D.nx (σ.set i (some v)) H1) : tAsg te (gName i) D σ H := h H (Ex.refl H) _ fun v H1 e p => k v H1 e p
theorem p_ret (h : EvP te σ H P) (k : ∀ v H1, Ex H H1 → P.p v H1 → D.rt v H1) : tRet te D σ H := h H (Ex.refl H) _ fun v H1 e p => k v H1 e p
theorem p_when {b : Bool} (h : EvT t σ H b) (h1 : b = true → ∀ H1, Ex H H1 → tu { D with nx := tz D } σ H1) (h2 : b = false → ∀ H1, Ex H H1 → tz D σ H1) : tSeq (tIfS t tu tNext) tz D σ H := q_when h h1 h2
/-- a test that is false: the suite is passed by -/
theorem p_pass (h : EvT t σ H false) (h2 : ∀ H1, Ex H H1 → tz D σ H1) : tSeq (tIfS t tu tNext) tz D σ H := q_when h (fun q => nomatch q) fun _ => h2
theorem p_par {i j : Nat} {ta : TA} (h : EvPA ta σ H [P, P']) (k : ∀ v w H1, Ex H H1 → P.p v H1 → P'.p w H1 → tz D ((σ.set i (some v)).set j (some w)) H1) : tSeq (tPar i j ta) tz D σ H := h H (Ex.refl H) _ fun vs H1 e ps => by
  obtain ⟨v, r, rfl, p, v2, r2, rfl, p2, e2⟩ := ps
  cases e2
  exact ⟨v, v2, rfl, k v v2 H1 e p p2⟩
theorem p_par1 {i j : Nat} {ta : TA} (h : EvPA ta σ H [P, P']) (k : ∀ v w H1, Ex H H1 → P.p v H1 → P'.p w H1 → D.nx ((σ.set i (some v)).set j (some w)) H1) : tPar i j ta D σ H := h H (Ex.refl H) _ fun vs H1 e ps => by
  obtain ⟨v, r, rfl, p, v2, r2, rfl, p2, e2⟩ := ps
  cases e2
  exact ⟨v, v2, rfl, k v v2 H1 e p p2⟩
theorem p_drop (h : EvP te σ H P) (k : ∀ v H1, Ex H H1 → P.p v H1 → tz D σ H1) : tSeq (tDrop te) tz D σ H := h H (Ex.refl H) _ fun v H1 e p => k v H1 e p
end

/-! ### promises of defs that change nothing that stood -/
def spF {α : Type} (arg : α → List PD) (res : α → PD) (ok : α → Prop) : Sp := fun vs H Q _ => ∃ a, ok a ∧ Alls (arg a) vs H ∧ ∀ v H', Ex H H' → (res a).p v H' → Q v H'
theorem spp {α : Type} {arg : α → List PD} {res : α → PD} {ok : α → Prop} {H : Hp} (a : α) (h : ok a) : SPP (spF arg res ok) (arg a) H (res a) := fun vs H1 _ ps Q E q => ⟨a, h, ps, fun v H' e p => q v H' e p⟩
theorem ep_call {α : Type} {arg : α → List PD} {res : α → PD} {ok : α → Prop} {H : Hp} {σ : L2.St} {ta : TA} {E : XK} (a : α) (h : ok a) (ha : EvPA ta σ H (arg a)) : EvP (tCall (spF arg res ok) [] E ta) σ H (res a) := ep_callS ha (spp a h)
theorem spF_len {α : Type} {arg : α → List PD} {res : α → PD} {ok : α → Prop} {n : Nat} (h : ∀ a, (arg a).length = n) (vs : List V) (H : Hp) (Q : VK) (E : XK) (q : spF arg res ok vs H Q E) : vs.length = n := by
  obtain ⟨a, _, ps, _⟩ := q
  rw [Alls.len ps, h]

/-! ### the text by places; a def of the top, a method -/
def top (i : Nat) : Stmt := PySem.Challenge.pw_rootstalls_k43_whole_rings_listed.main.body.getD i (.Pass ⟨0, 0, 0, 0⟩)
/-- a def of the top: where it stands, its name, how it binds -/
structure TDef (K : PySem.W.Frag) (mg : Str → Option Value) (x : Str) (st : Stmt) (ps : List Str) : Prop where
  ex : ∃ (f : Addr) (fd : FuncData), Fun K x x st f fd ∧ mg x = some (.ref f) ∧ Binds K fd ps []
structure TMeth (K : PySem.W.Frag) (C : Addr) (m qual : Str) (st : Stmt) (ps : List Str) : Prop where
  ex : ∃ (f : Addr) (fd : FuncData), Fun K m qual st f fd ∧ Meth K C m f ∧ Binds K fd ps []
section
open PyProof.Rows
variable {P : Program} {w : World} {K : PySem.W.Frag} {mg : Str → Option Value} {base : Heap}
theorem TDef.cal {x : Str} {st : Stmt} {N ps : List Str} {k : Nat} {sp : Sp} (d : TDef K mg x st ps) (S : FnScope N ps (defScope st)) (len : ∀ vs H Q E, sp vs H Q E → vs.length = ps.length)
    (hbody : ∀ (cdv : Value) (f : Addr) (A : Around) (outer : List Env) (s : Shared) (H : Hp) (vs : List V) (Q : VK) (E : XK), Room k (A.deeper (envOfC x (defScope st) s.heap.objs.size f cdv)) → sp vs H Q E →
      ∃ t, PSs (cxOf CX0 P w K mg base N x (defScope st) f cdv A outer s H E).nox (defBody st) t ∧ t { nx := fun _ H' => Q .non H', rt := Q } (start N vs) H) : C8.Cal P w K mg base (k + 1) x sp [] := by
  obtain ⟨f, fd, F, hm, hb⟩ := d.ex
  exact ⟨⟨f, fd, ps, [], F.ok S len fun cdv A outer s H vs Q E hr h => hbody cdv f A outer s H vs Q E hr h, hm, F.kp, hb, .nil⟩⟩
theorem TMeth.met {m qual : Str} {C : Addr} {st : Stmt} {N ps : List Str} {k : Nat} {sp : Sp} (d : TMeth K C m qual st ps) (c : Cls K C) (S : FnScope N ps (defScope st)) (len : ∀ vs H Q E, sp vs H Q E → vs.length = ps.length)
    (hbody : ∀ (cdv : Value) (f : Addr) (A : Around) (outer : List Env) (s : Shared) (H : Hp) (vs : List V) (Q : VK) (E : XK), Room k (A.deeper (envOfC qual (defScope st) s.heap.objs.size f cdv)) → sp vs H Q E →
      ∃ t, PSs (cxOf CX0 P w K mg base N qual (defScope st) f cdv A outer s H E).nox (defBody st) t ∧ t { nx := fun _ H' => Q .non H', rt := Q } (start N vs) H) : C8.Met P w K mg base (k + 1) C m sp [] := by
  obtain ⟨f, fd, F, hm, hb⟩ := d.ex
  exact ⟨⟨f, fd, ps, [], c, hm, F.ok S len fun cdv A outer s H vs Q E hr h => hbody cdv f A outer s H vs Q E hr h, hb, .nil⟩⟩
end
end K43
set_option Elab.async false
set_option linter.all false
set_option maxRecDepth 100000
set_option maxHeartbeats 4000000
/-! k43, part F1: exact numbers and fractions. -/
namespace K43
open PySem PySem.Spec L2 Evl C8

/-! ### what the top has written -/
abbrev cls (i j : Nat) : Stmt := inClass (top i) j
structure TInit (K : PySem.W.Frag) (mg : Str → Option Value) (x : Str) (C : Addr) (qual : Str) (st : Stmt) (ps : List Str) : Prop where
  ex : ∃ (f : Addr) (fd : FuncData), Mk K C f ∧ L2.Fun K "__init__" qual st f fd ∧ mg x = some (.ref C) ∧ Binds K fd ps []
structure Txt (K : PySem.W.Frag) (mg : Str → Option Value) (cE cW : Addr) : Prop where
  b_len : mg "len" = none
  b_isi : mg "isinstance" = none
  b_int : mg "int" = none
  b_bool : mg "bool" = none
  b_abs : mg "abs" = none
  b_tuple : mg "tuple" = none
  b_list : mg "list" = none
  b_all : mg "all" = none
  b_any : mg "any" = none
  b_sum : mg "sum" = none
  b_min : mg "min" = none
  b_sorted : mg "sorted" = none
  b_range : mg "range" = none
  b_enum : mg "enumerate" = none
  b_zip : mg "zip" = none
  b_repr : mg "repr" = none
  clE : Cls K cE
  nTop : NoAttr K cE "top"
  nBot : NoAttr K cE "bottom"
  iE : TInit K mg "Exact" cE "Exact.__init__" (cls 9 0) ["self", "top", "bottom"]
  mAdd : TMeth K cE "__add__" "Exact.__add__" (cls 9 1) ["self", "other"]
  mMul : TMeth K cE "__mul__" "Exact.__mul__" (cls 9 3) ["self", "other"]
  mEq : TMeth K cE "__eq__" "Exact.__eq__" (cls 9 4) ["self", "other"]
  mOver : TMeth K cE "over" "Exact.over" (cls 9 5) ["self", "other"]
  mSquare : TMeth K cE "square" "Exact.square" (cls 9 8) ["self"]
  mPair : TMeth K cE "pair" "Exact.pair" (cls 9 9) ["self"]
  selfE : PySem.W.selfFirst K cE = true
  neE : PySem.W.findIn K (.ref cE) "__ne__" = some (some (.builtin "object.__ne__"))
  mroE : PySem.W.mroIn K cE (.type "object") = some true
  clsE : PySem.W.findIn K (.ref cE) "__class__" = some (some (.builtin "object.__class__"))
  getC : PySem.W.specialIn K (.builtin "object.__class__") "__get__" = some (some (.builtin "getset_descriptor.__get__"))
  takC : PySem.W.takesIn K (.builtin "object.__class__") = some true
  kitE : PySem.W.kitOne K (.ref cE) (.ref cE) = some true
  clW : Cls K cW
  nWar : NoAttr K cW "wares"
  nSta : NoAttr K cW "stalls"
  iW : TInit K mg "Web" cW "Web.__init__" (cls 19 0) ["self", "wares", "stalls"]
  cMW : ∃ t, mg "MOST_WARES" = some (.int 8 t)
  cMS : ∃ t, mg "MOST_STALLS" = some (.int 16 t)
  cMR : ∃ t, mg "MOST_RINGS" = some (.int 200 t)
  d7 : TDef K mg "is_integer" (top 7) ["thing"]
  d8 : TDef K mg "common" (top 8) ["one", "other"]
  d10 : TDef K mg "exact" (top 10) ["pair"]
  d12 : TDef K mg "is_fraction" (top 12) ["thing"]
  d13 : TDef K mg "is_some" (top 13) ["thing"]
  d17 : TDef K mg "is_ware_below" (top 17) ["thing", "wares"]
  d18 : TDef K mg "is_stall" (top 18) ["thing", "wares"]
  d20 : TDef K mg "roots_exact" (top 20) ["web"]
  d21 : TDef K mg "other_ware" (top 21) ["stall", "ware"]
  d22 : TDef K mg "held_of" (top 22) ["stall", "ware"]
  d23 : TDef K mg "root_exact" (top 23) ["stall"]
  d24 : TDef K mg "piece_of" (top 24) ["web", "ware"]
  d25 : TDef K mg "pieces" (top 25) ["web"]
  d27 : TDef K mg "next_scale" (top 27) ["stall", "ware", "scale"]
  d28 : TDef K mg "scales_and_ways" (top 28) ["web"]
  d29 : TDef K mg "uneven_stall" (top 29) ["web", "found"]
  d30 : TDef K mg "fit_exact" (top 30) ["web"]
  d31 : TDef K mg "fit" (top 31) ["web"]
  d32 : TDef K mg "is_ring" (top 32) ["web", "thing"]
  d33 : TDef K mg "is_uneven_ring" (top 33) ["web", "thing"]
  d36 : TDef K mg "turned_about" (top 36) ["web", "ring"]
  d37 : TDef K mg "least_way" (top 37) ["web", "ring"]
  d38 : TDef K mg "ways_on" (top 38) ["web", "way", "here"]
  d39 : TDef K mg "rings" (top 39) ["web"]
  d40 : TDef K mg "uneven_rings" (top 40) ["web"]
  d42 : TDef K mg "_law_hand" (top 42) ["_law_script"]
  d43 : TDef K mg "_law_draw" (top 43) ["_law_hand_here", "_law_many_here"]
  d44 : TDef K mg "_law_gcd" (top 44) ["_law_one", "_law_other"]
  d45 : TDef K mg "_law_frac" (top 45) ["_law_top", "_law_bottom"]
  d48 : TDef K mg "_law_times" (top 48) ["_law_one", "_law_other"]
  d49 : TDef K mg "_law_over" (top 49) ["_law_one", "_law_other"]
  d50 : TDef K mg "_law_some" (top 50) ["_law_hand_here"]
  d51 : TDef K mg "_law_shuffled" (top 51) ["_law_hand_here", "_law_things"]
  d52 : TDef K mg "_law_stall" (top 52) ["_law_hand_here", "_law_one", "_law_other", "_law_quotient"]
  d53 : TDef K mg "_law_stalls" (top 53) ["_law_hand_here", "_law_wares", "_law_many_here", "_law_way"]
  d55 : TDef K mg "_law_whole" (top 55) ["_law_thing"]
  d56 : TDef K mg "_law_is_uneven" (top 56) ["_law_stalls_here", "_law_thing"]
  d57 : TDef K mg "_law_walked" (top 57) ["_law_stalls_here", "_law_lot"]
  d58 : TDef K mg "_law_least" (top 58) ["_law_stalls_here", "_law_ring"]
  d59 : TDef K mg "_law_turnings" (top 59) ["_law_ring"]
  d60 : TDef K mg "_law_rings" (top 60) ["_law_stalls_here"]
  d61 : TDef K mg "_law_many" (top 61) ["_law_which", "_law_web"]
  d62 : TDef K mg "_law_beside_right" (top 62) ["_law_hand_here"]
  d63 : TDef K mg "law" (top 63) ["_law_script"]

/-! ### exact numbers as objects -/
theorem ktb : ¬ (("top" : Str) = "bottom") := by decide +kernel
theorem kbt : ¬ (("bottom" : Str) = "top") := by decide +kernel
def fldsE (q : Rat) : List (Str × V) := putF "bottom" (.int (q.den : Nat)) (putF "top" (.int q.num) [])
theorem fldsE_top (q : Rat) : (fldsE q).lookup ("top" : Str) = some (.int q.num) := by
  unfold fldsE
  rw [lookup_putF, if_neg ktb, lookup_putF, if_pos rfl]
theorem fldsE_bottom (q : Rat) : (fldsE q).lookup ("bottom" : Str) = some (.int (q.den : Nat)) := by
  unfold fldsE
  rw [lookup_putF, if_pos rfl]
theorem fldsE_no (q : Rat) {m : Str} (h1 : ¬ m = "bottom") (h2 : ¬ m = "top") : (fldsE q).lookup m = none := by
  unfold fldsE
  rw [lookup_putF, if_neg h1, lookup_putF, if_neg h2]
  all_goals rfl
/-- the exact number q -/
def pE (C : Addr) (q : Rat) : PD := ⟨fun v H => ∃ p dx, v = .ref p ∧ H p = some (.ins C dx (fldsE q)), fun e ⟨p, dx, h, k⟩ => ⟨p, dx, h, e p _ k⟩⟩
def Sz (k : Nat) (q : Rat) : Prop := q.num.natAbs < 2 ^ k ∧ q.den < 2 ^ k
theorem Sz.mono {j k : Nat} {q : Rat} (h : Sz j q) (l : j ≤ k) : Sz k q := ⟨Nat.lt_of_lt_of_le h.1 (Nat.pow_le_pow_right (by decide) l), Nat.lt_of_lt_of_le h.2 (Nat.pow_le_pow_right (by decide) l)⟩
theorem sz_mkRat {k : Nat} {a : Int} {b : Nat} (ha : a.natAbs < 2 ^ k) (hb : b < 2 ^ k) (h0 : 0 < b) : Sz k (mkRat a b) := by
  constructor
  · rw [Rat.num_mkRat, if_neg (by omega), Int.natAbs_ediv_of_dvd]
    · exact Nat.lt_of_le_of_lt (Nat.div_le_self _ _) ha
    · exact Int.ofNat_dvd_left.mpr (Nat.gcd_dvd_right _ _)
  · rw [Rat.den_mkRat, if_neg (by omega)]
    exact Nat.lt_of_le_of_lt (Nat.div_le_self _ _) hb
theorem sz_mul {j k : Nat} {q r : Rat} (hq : Sz j q) (hr : Sz k r) : Sz (j + k) (q * r) := by
  rw [Rat.mul_def']
  refine sz_mkRat (wide_lt hq.1 hr.1) ?_ (Nat.mul_pos q.den_pos r.den_pos)
  rw [Nat.pow_add]
  exact Nat.mul_lt_mul'' hq.2 hr.2
theorem mkRat_toNat_num {a : Int} {b : Nat} (h : 0 < b) : (mkRat a b).num = a / (Int.gcd a b : Nat) := by
  rw [Rat.num_mkRat, if_neg (by omega), Nat.gcd_comm]
  rfl
theorem mkRat_toNat_den {a : Int} {b : Nat} (h : 0 < b) : ((mkRat a b).den : Int) = (b : Int) / (Int.gcd a b : Nat) := by
  rw [Rat.den_mkRat, if_neg (by omega), Nat.gcd_comm]
  rfl

section
variable {P : Program} {w : World} {K : PySem.W.Frag} {mg : Str → Option Value} {base : Heap} {cE cW : Addr}

/-! ### is_integer, common -/
def spIsInt : Sp := spF (fun (i : Int) => [pI i]) (fun _ => pB true) (fun _ => True)
theorem ok7 (T : Txt K mg cE cW) : Cal P w K mg base 1 "is_integer" spIsInt [] := by
  refine T.d7.cal (N := ["thing"]) ⟨rfl, rfl, rfl, by decide +kernel, rfl, by decide +kernel, by decide +kernel⟩ (spF_len fun _ => rfl) fun cdv f A outer s H vs Q E hr h => ?_
  obtain ⟨i, _, ⟨v, r, rfl, p, e⟩, k⟩ := h
  cases e
  cases p
  have hu := hu_of hr
  refine ⟨_, pss_one (ps_ret (pe_and (pe_callB call_isi (by rfl) T.b_isi (by decide +kernel) (pa_cons (pv 0) (pa_cons (pe_bltn (v := .ty "int") (by rfl) T.b_int (by decide +kernel) rfl) pa_nil)))
    (pe_one (pe_not (pe_callB call_isi (by rfl) T.b_isi (by decide +kernel) (pa_cons (pv 0) (pa_cons (pe_bltn (v := .ty "bool") (by rfl) T.b_bool (by decide +kernel) rfl) pa_nil))))))), ?_⟩
  exact p_ret (ep_and (ep_cb (ea_cons (ep_vi rfl) (ea_cons ep_c ea_nil)) cp_isiI) fun _ => ep_not (ep_cb (ea_cons (ep_vi rfl) (ea_cons ep_c ea_nil)) cp_isiB)) k

theorem cp_abs {i : Int} {H : Hp} : CP (fun xs H Q => ∃ i, xs = [.int i] ∧ Q (.int (if i < 0 then -i else i)) H) [pI i] H (pI (i.natAbs : Nat)) := fun vs H1 _ ps Q q => by
  obtain ⟨v, r, rfl, p, e⟩ := ps
  cases e
  cases p
  refine ⟨i, rfl, q _ H1 (Ex.refl H1) ?_⟩
  show V.int _ = V.int _
  congr 1
  split <;> omega
def spCommon : Sp := spF (fun (a : Int × Int) => [pI a.1, pI a.2]) (fun a => pI (Int.gcd a.1 a.2 : Nat)) (fun _ => True)
theorem ok8 (T : Txt K mg cE cW) : Cal P w K mg base 1 "common" spCommon [] := by
  have sc : FnScope ["one", "other"] ["one", "other"] (defScope (top 8)) := ⟨rfl, rfl, rfl, by decide +kernel, rfl, by decide +kernel, by decide +kernel⟩
  refine T.d8.cal sc (spF_len fun _ => rfl) fun cdv f A outer s H vs Q E hr h => ?_
  obtain ⟨⟨i, j⟩, _, ⟨v, r, rfl, p, v2, r2, rfl, p2, e⟩, k⟩ := h
  cases e
  cases p
  cases p2
  refine ⟨_, pss_cons (ps_par (i := 0) (j := 1) (by rfl) sc.nd rfl rfl (by decide) rfl rfl (pa_cons (pe_callB call_abs (by rfl) T.b_abs (by decide +kernel) (pa_cons (pv 0) pa_nil)) (pa_cons (pe_callB call_abs (by rfl) T.b_abs (by decide +kernel) (pa_cons (pv 1) pa_nil)) pa_nil)) (by rfl))
    (pss_cons (ps_while PassesOwn.never (pt_cmpR op_gt (pv 1) pe_int (nomark _)) (pss_one (ps_par (i := 0) (j := 1) (by rfl) sc.nd rfl rfl (by decide) rfl rfl (pa_cons (pv 1) (pa_cons (pe_op op_mod (pv 0) (pv 1)) pa_nil)) (by rfl))))
    (pss_one (ps_ret (pv 0)))), ?_⟩
  refine p_par (ea_cons (ep_cb (ea_cons (ep_vi rfl) ea_nil) cp_abs) (ea_cons (ep_cb (ea_cons (ep_vi rfl) ea_nil) cp_abs) ea_nil)) fun v w H1 e1 p p2 => ?_
  cases p
  cases p2
  refine q_while (fun m σ H2 => ∃ a b : Nat, σ = [some (.int a), some (.int b)] ∧ b = m ∧ Nat.gcd a b = Int.gcd i j ∧ Ex H H2) j.natAbs ⟨_, _, rfl, rfl, rfl, e1⟩ ?_
  rintro m σ H2 ⟨a, b, rfl, rfl, hg, e2⟩
  refine ⟨_, pt_test (ep_op (ep_vi rfl) ep_i rp_I0b), fun hb H3 e3 => ?_, fun hb H3 e3 => ?_⟩
  · have hb' : 0 < b := by
      have := of_decide_eq_true hb
      omega
    refine ⟨_, fun σ2 H4 h => h, ?_⟩
    refine p_par1 (ea_cons (ep_vi rfl) (ea_cons (ep_op (ep_vi rfl) (ep_vi rfl) (rp_I (by omega))) ea_nil)) fun v w H4 e4 p p2 => ?_
    cases p
    cases p2
    refine ⟨a % b, Nat.mod_lt _ hb', b, a % b, rfl, rfl, ?_, (e2.trans e3).trans e4⟩
    rw [← hg, Nat.gcd_comm a b, Nat.gcd_rec b a, Nat.gcd_comm]
  · have hb' : b = 0 := by
      have := of_decide_eq_false hb
      omega
    subst hb'
    refine p_ret (P := pI (a : Nat)) (by exact ep_vi rfl) fun v H4 e4 p => ?_
    refine k v H4 ((e2.trans e3).trans e4) ?_
    have : a = Int.gcd i j := by rw [← hg, Nat.gcd_zero_right]
    rw [this] at p
    exact p
end
end K43
set_option Elab.async false
set_option linter.all false
set_option maxRecDepth 100000
set_option maxHeartbeats 4000000
/-! k43, part F2: the methods of exact numbers; exact, is_fraction, is_some. -/
namespace K43
open PySem PySem.Spec L2 Evl C8
section
open PyProof.Rows
variable {P : Program} {w : World} {K : PySem.W.Frag} {mg : Str → Option Value} {base : Heap}
theorem TInit.mak {x qual : Str} {C : Addr} {st : Stmt} {N ps : List Str} {k : Nat} {sp : Sp} (d : TInit K mg x C qual st ps) (S : FnScope N ps (defScope st)) (len : ∀ vs H Q E, sp vs H Q E → vs.length = ps.length)
    (hbody : ∀ (cdv : Value) (f : Addr) (A : Around) (outer : List Env) (s : Shared) (H : Hp) (vs : List V) (Q : VK) (E : XK), Room k (A.deeper (envOfC qual (defScope st) s.heap.objs.size f cdv)) → sp vs H Q E →
      ∃ t, PSs (cxOf L2.CX0 P w K mg base N qual (defScope st) f cdv A outer s H E).nox (defBody st) t ∧ t { nx := fun _ H' => Q .non H', rt := Q } (start N vs) H) : C8.Mak P w K mg base (k + 1) x C sp [] := by
  obtain ⟨f, fd, M, F, hm, hb⟩ := d.ex
  exact ⟨⟨f, fd, ps, [], M, F.ok S len fun cdv A outer s H vs Q E hr h => hbody cdv f A outer s H vs Q E hr h, hm, hb, .nil⟩⟩
end
/-- the size of all numbers that are reckoned with -/
abbrev BIG : Nat := 4000
section
variable {P : Program} {w : World} {K : PySem.W.Frag} {mg : Str → Option Value} {base : Heap} {cE cW : Addr} {σ : L2.St} {H : Hp} {te tx : TE}

/-! ### Exact(top, bottom) -/
def spInitE (C : Addr) : Sp := fun vs H Q _ => ∃ (p dx : Addr) (t b : Int), vs = [.ref p, .int t, .int b] ∧ H p = some (.ins C dx []) ∧ 0 < b ∧ t.natAbs < 2 ^ BIG ∧ b.natAbs < 2 ^ BIG ∧
  ∀ H', (∀ c o, H c = some o → c ≠ p → H' c = some o) → H' p = some (.ins C dx (fldsE (mkRat t b.toNat))) → Q .non H'
theorem okInitE (T : Txt K mg cE cW) : Mak P w K mg base 2 "Exact" cE (spInitE cE) [] := by
  have sc : FnScope ["self", "top", "bottom", "part"] ["self", "top", "bottom"] (defScope (cls 9 0)) := ⟨rfl, rfl, rfl, by decide +kernel, rfl, by decide +kernel, by decide +kernel⟩
  refine T.iE.mak sc (fun vs H Q E h => by obtain ⟨p, dx, t, b, rfl, _⟩ := h; rfl) fun cdv f A outer s H vs Q E hr h => ?_
  obtain ⟨p, dx, t, b, rfl, hp, hb, ht, hb2, k⟩ := h
  refine ⟨_, pss_cons (ps_if (pt_cmpR op_lt (pv 2) pe_int (nomark _)) (pss_one (ps_par (i := 1) (j := 2) (by rfl) sc.nd rfl rfl (by decide) rfl rfl (pa_cons (pe_un un_neg (pv 1)) (pa_cons (pe_un un_neg (pv 2)) pa_nil)) (by rfl))) pss_nil)
    (pss_cons (ps_set (i := 3) sc.nd rfl (.inl rfl) (pe_c (ok8 T) hr (by decide) rfl (pa_cons (pv 1) (pa_cons (pv 2) pa_nil))))
    (pss_cons (ps_fld (pv 0) (pe_op op_fdivW (pv 1) (pv 3)) rfl)
    (pss_one (ps_fld (pv 0) (pe_op op_fdivW (pv 2) (pv 3)) rfl)))), ?_⟩
  refine p_pass (pt_test (ep_bis (ep_op (ep_vi (n := b) rfl) ep_i rp_I0b) (decide_eq_false (by omega)))) fun H1 e1 => ?_
  refine p_asg (ep_call (t, b) trivial (ea_cons (ep_vi rfl) (ea_cons (ep_vi rfl) ea_nil))) fun v H2 e2 pv => ?_
  obtain rfl : v = V.int (Int.gcd t b : Nat) := pv
  have hg : 0 < Int.gcd t b := Int.gcd_pos_of_ne_zero_right _ (by omega)
  have hgl : Int.gcd t b ≤ b.natAbs := Nat.le_of_dvd (by omega) (Nat.gcd_dvd_right _ _)
  have hd : ∀ i : Int, CDivW i (Int.gcd t b : Nat) := fun i => wide_div (b := BIG) (by omega) (by show Int.gcd t b < _; omega) (by decide) (by decide)
  have h2 := e2 _ _ (e1 _ _ hp)
  refine ⟨_, rfl, _, rfl, _, _, rfl, rfl, hd _, _, rfl, p, cE, dx, [], rfl, h2, T.clE, T.nTop, (by show 0 < 1000; decide), ?_⟩
  refine ⟨_, rfl, _, rfl, _, _, rfl, rfl, hd _, _, rfl, p, cE, dx, _, rfl, upd_same, T.clE, T.nBot, (by show 1 < 1000; decide), ?_⟩
  refine k _ (fun c o e hc => ?_) ?_
  · rw [upd_ne hc, upd_ne hc]
    exact e2 _ _ (e1 _ _ e)
  · rw [upd_same]
    have hb0 : 0 < b.toNat := by omega
    have eb : (b.toNat : Int) = b := by omega
    have e1 := mkRat_toNat_num (a := t) hb0
    have e2 := mkRat_toNat_den (a := t) hb0
    rw [eb] at e1 e2
    unfold fldsE
    rw [e1, e2]
theorem ep_mkE {t : TA} {a b : Int} (h : EvPA t σ H [pI a, pI b]) (hb : 0 < b) (ha : a.natAbs < 2 ^ BIG) (hb2 : b.natAbs < 2 ^ BIG) : EvP (tMake cE (spInitE cE) [] L2.E0 t) σ H (pE cE (mkRat a b.toNat)) := fun H1 e Q q =>
  h H1 e _ fun vs H2 e2 ps x dx hx hdx hne => by
    obtain ⟨v, r, rfl, p, v2, r2, rfl, p2, e3⟩ := ps
    cases e3
    cases p
    cases p2
    refine ⟨x, dx, a, b, rfl, upd_same, hb, ha, hb2, fun H' k hp => ⟨rfl, q _ H' (e2.trans fun c o z => k c o ?_ (ne_of_none z hx)) ⟨x, dx, rfl, hp⟩⟩⟩
    rw [upd_ne (ne_of_none z hx), upd_ne (ne_of_none z hdx)]
    exact z
theorem ep_mkE' {t : TA} {a b : Int} {q : Rat} (h : EvPA t σ H [pI a, pI b]) (hb : 0 < b) (ha : a.natAbs < 2 ^ BIG) (hb2 : b.natAbs < 2 ^ BIG) (e : mkRat a b.toNat = q) : EvP (tMake cE (spInitE cE) [] L2.E0 t) σ H (pE cE q) := e ▸ ep_mkE h hb ha hb2
theorem ep_top (T : Txt K mg cE cW) {q : Rat} (h : EvP te σ H (pE cE q)) : EvP (tFld K te "top") σ H (pI q.num) := fun H1 e Q k => h H1 e _ fun v H2 e2 p => by
  obtain ⟨a, dx, rfl, hp⟩ := p
  exact ⟨a, cE, dx, _, _, rfl, hp, T.clE, T.nTop, fldsE_top q, k _ H2 e2 rfl⟩
theorem ep_bottom (T : Txt K mg cE cW) {q : Rat} (h : EvP te σ H (pE cE q)) : EvP (tFld K te "bottom") σ H (pI (q.den : Nat)) := fun H1 e Q k => h H1 e _ fun v H2 e2 p => by
  obtain ⟨a, dx, rfl, hp⟩ := p
  exact ⟨a, cE, dx, _, _, rfl, hp, T.clE, T.nBot, fldsE_bottom q, k _ H2 e2 rfl⟩
theorem wmul {i j : Int} {a b : Nat} (ha : i.natAbs < 2 ^ a) (hb : j.natAbs < 2 ^ b) (h : a + b ≤ 100000) : CMulW i j := by
  refine wide_mul (a := a + 1) (b := b + 1) ?_ ?_ (by omega) (by omega) (by omega)
  · exact Nat.lt_of_lt_of_le ha (Nat.pow_le_pow_right (by decide) (Nat.le_succ _))
  · exact Nat.lt_of_lt_of_le hb (Nat.pow_le_pow_right (by decide) (Nat.le_succ _))
theorem wlt {i j : Int} {a b c : Nat} (ha : i.natAbs < 2 ^ a) (hb : j.natAbs < 2 ^ b) (h : a + b ≤ c) : (i * j).natAbs < 2 ^ c :=
  Nat.lt_of_lt_of_le (wide_lt ha hb) (Nat.pow_le_pow_right (by decide) h)
theorem wadd {i j : Int} {c : Nat} (ha : i.natAbs < 2 ^ c) (hb : j.natAbs < 2 ^ c) : (i + j).natAbs < 2 ^ (c + 1) := by
  have : (2 : Nat) ^ (c + 1) = 2 ^ c + 2 ^ c := by rw [Nat.pow_succ]; omega
  omega

/-! ### the methods -/
/-- two exact numbers, of at most so many bits -/
def arg2 (C : Addr) : Rat × Rat → List PD := fun a => [pE C a.1, pE C a.2]
def spAdd (C : Addr) : Sp := spF (arg2 C) (fun a => pE C (a.1 + a.2)) (fun a => Sz 1900 a.1 ∧ Sz 1900 a.2)
def spMul (C : Addr) : Sp := spF (arg2 C) (fun a => pE C (a.1 * a.2)) (fun a => Sz 1900 a.1 ∧ Sz 1900 a.2)
def spOver (C : Addr) : Sp := spF (arg2 C) (fun a => pE C (a.1 / a.2)) (fun a => Sz 1900 a.1 ∧ Sz 1900 a.2 ∧ 0 < a.2)
def spEqE (C : Addr) : Sp := spF (arg2 C) (fun a => pB (decide (a.1 = a.2))) (fun _ => True)
def spSquare (C : Addr) : Sp := spF (fun (a : Rat) => [pE C a]) (fun a => pE C (a * a)) (fun a => Sz 1900 a)
def spPair (K : PySem.W.Frag) (C : Addr) : Sp := spF (fun (a : Rat) => [pE C a]) (fun a => pT K [pI a.num, pI (a.den : Nat)]) (fun _ => True)
theorem den_posI (q : Rat) : (0 : Int) < (q.den : Nat) := by have := q.den_pos; omega
theorem toNat_mul {a b : Nat} : ((a : Int) * (b : Int)).toNat = a * b := by
  rw [← Int.natCast_mul]; rfl
theorem okAdd (T : Txt K mg cE cW) : Met P w K mg base 4 cE "__add__" (spAdd cE) [] := by
  have sc : FnScope ["self", "other"] ["self", "other"] (defScope (cls 9 1)) := ⟨rfl, rfl, rfl, by decide +kernel, rfl, by decide +kernel, by decide +kernel⟩
  refine T.mAdd.met T.clE sc (spF_len fun _ => rfl) fun cdv f A outer s H vs Q E hr h => ?_
  obtain ⟨⟨q, r⟩, ⟨hq, hr2⟩, ⟨v, rs, rfl, p, v2, r2, rfl, p2, e⟩, k⟩ := h
  cases e
  refine ⟨_, pss_one (ps_ret (pe_mk (okInitE T) hr (by decide) rfl (pa_cons (pe_op op_add (pe_op op_mulW (pe_fld (pv 0) rfl) (pe_fld (pv 1) rfl)) (pe_op op_mulW (pe_fld (pv 1) rfl) (pe_fld (pv 0) rfl)))
    (pa_cons (pe_op op_mulW (pe_fld (pv 0) rfl) (pe_fld (pv 1) rfl)) pa_nil)))), ?_⟩
  refine p_ret (ep_mkE' (q := q + r) (ea_cons (ep_op (ep_op (ep_top T (ep_var rfl p)) (ep_bottom T (ep_var rfl p2)) (rp_I (wmul hq.1 hr2.2 (by decide)))) (ep_op (ep_top T (ep_var rfl p2)) (ep_bottom T (ep_var rfl p)) (rp_I (wmul hr2.1 hq.2 (by decide)))) rp_I0)
    (ea_cons (ep_op (ep_bottom T (ep_var rfl p)) (ep_bottom T (ep_var rfl p2)) (rp_I (wmul hq.2 hr2.2 (by decide)))) ea_nil)) ?_ ?_ ?_ ?_) k
  · exact Int.mul_pos (den_posI q) (den_posI r)
  · exact Nat.lt_of_lt_of_le (wadd (c := 3800) (wlt hq.1 hr2.2 (by decide)) (wlt hr2.1 hq.2 (by decide))) (Nat.pow_le_pow_right (by decide) (by decide))
  · exact wlt hq.2 hr2.2 (by decide)
  · rw [toNat_mul, Rat.add_def']
theorem okMul (T : Txt K mg cE cW) : Met P w K mg base 4 cE "__mul__" (spMul cE) [] := by
  have sc : FnScope ["self", "other"] ["self", "other"] (defScope (cls 9 3)) := ⟨rfl, rfl, rfl, by decide +kernel, rfl, by decide +kernel, by decide +kernel⟩
  refine T.mMul.met T.clE sc (spF_len fun _ => rfl) fun cdv f A outer s H vs Q E hr h => ?_
  obtain ⟨⟨q, r⟩, ⟨hq, hr2⟩, ⟨v, rs, rfl, p, v2, r2, rfl, p2, e⟩, k⟩ := h
  cases e
  refine ⟨_, pss_one (ps_ret (pe_mk (okInitE T) hr (by decide) rfl (pa_cons (pe_op op_mulW (pe_fld (pv 0) rfl) (pe_fld (pv 1) rfl))
    (pa_cons (pe_op op_mulW (pe_fld (pv 0) rfl) (pe_fld (pv 1) rfl)) pa_nil)))), ?_⟩
  refine p_ret (ep_mkE' (q := q * r) (ea_cons (ep_op (ep_top T (ep_var rfl p)) (ep_top T (ep_var rfl p2)) (rp_I (wmul hq.1 hr2.1 (by decide))))
    (ea_cons (ep_op (ep_bottom T (ep_var rfl p)) (ep_bottom T (ep_var rfl p2)) (rp_I (wmul hq.2 hr2.2 (by decide)))) ea_nil)) ?_ ?_ ?_ ?_) k
  · exact Int.mul_pos (den_posI q) (den_posI r)
  · exact wlt hq.1 hr2.1 (by decide)
  · exact wlt hq.2 hr2.2 (by decide)
  · rw [toNat_mul, Rat.mul_def']
theorem num_pos {q : Rat} (h : 0 < q) : 0 < q.num := by
  have := (Rat.lt_iff 0 q).mp h
  simpa using this
theorem over_eq {q r : Rat} (h : 0 < r) : mkRat (q.num * r.den) (q.den * r.num.toNat) = q / r := by
  have hn := num_pos h
  have hq : q = mkRat q.num q.den := (Rat.mkRat_self q).symm
  have hd := q.den_pos
  have hri : r⁻¹ = mkRat (r.den : Int) r.num.toNat := by
    rw [Rat.inv_def]
    have : r.num = (r.num.toNat : Int) := by omega
    conv => lhs; rw [this]
    rw [Rat.divInt_ofNat]
  rw [Rat.div_def, hri]
  conv => rhs; rw [hq]
  rw [Rat.mkRat_mul_mkRat]
theorem okOver (T : Txt K mg cE cW) : Met P w K mg base 4 cE "over" (spOver cE) [] := by
  have sc : FnScope ["self", "other"] ["self", "other"] (defScope (cls 9 5)) := ⟨rfl, rfl, rfl, by decide +kernel, rfl, by decide +kernel, by decide +kernel⟩
  refine T.mOver.met T.clE sc (spF_len fun _ => rfl) fun cdv f A outer s H vs Q E hr h => ?_
  obtain ⟨⟨q, r⟩, ⟨hq, hr2, hr0⟩, ⟨v, rs, rfl, p, v2, r2, rfl, p2, e⟩, k⟩ := h
  cases e
  replace hr0 : 0 < r := hr0
  have hn := num_pos hr0
  have hn2 : r.num = (r.num.toNat : Int) := by omega
  refine ⟨_, pss_one (ps_ret (pe_mk (okInitE T) hr (by decide) rfl (pa_cons (pe_op op_mulW (pe_fld (pv 0) rfl) (pe_fld (pv 1) rfl))
    (pa_cons (pe_op op_mulW (pe_fld (pv 0) rfl) (pe_fld (pv 1) rfl)) pa_nil)))), ?_⟩
  refine p_ret (ep_mkE' (q := q / r) (ea_cons (ep_op (ep_top T (ep_var rfl p)) (ep_bottom T (ep_var rfl p2)) (rp_I (wmul hq.1 hr2.2 (by decide))))
    (ea_cons (ep_op (ep_bottom T (ep_var rfl p)) (ep_top T (ep_var rfl p2)) (rp_I (wmul hq.2 hr2.1 (by decide)))) ea_nil)) ?_ ?_ ?_ ?_) k
  · exact Int.mul_pos (den_posI q) hn
  · exact wlt hq.1 hr2.2 (by decide)
  · exact wlt hq.2 hr2.1 (by decide)
  · have e : ((q.den : Int) * r.num).toNat = q.den * r.num.toNat := by
      conv => lhs; rw [hn2]
      exact toNat_mul
    rw [e]
    exact over_eq hr0
theorem okSquare (T : Txt K mg cE cW) : Met P w K mg base 4 cE "square" (spSquare cE) [] := by
  have sc : FnScope ["self"] ["self"] (defScope (cls 9 8)) := ⟨rfl, rfl, rfl, by decide +kernel, rfl, by decide +kernel, by decide +kernel⟩
  refine T.mSquare.met T.clE sc (spF_len fun _ => rfl) fun cdv f A outer s H vs Q E hr h => ?_
  obtain ⟨q, hq, ⟨v, rs, rfl, p, e⟩, k⟩ := h
  cases e
  refine ⟨_, pss_one (ps_ret (pe_mk (okInitE T) hr (by decide) rfl (pa_cons (pe_op op_mulW (pe_fld (pv 0) rfl) (pe_fld (pv 0) rfl))
    (pa_cons (pe_op op_mulW (pe_fld (pv 0) rfl) (pe_fld (pv 0) rfl)) pa_nil)))), ?_⟩
  refine p_ret (ep_mkE' (q := q * q) (ea_cons (ep_op (ep_top T (ep_var rfl p)) (ep_top T (ep_var rfl p)) (rp_I (wmul hq.1 hq.1 (by decide))))
    (ea_cons (ep_op (ep_bottom T (ep_var rfl p)) (ep_bottom T (ep_var rfl p)) (rp_I (wmul hq.2 hq.2 (by decide)))) ea_nil)) ?_ ?_ ?_ ?_) k
  · exact Int.mul_pos (den_posI q) (den_posI q)
  · exact wlt hq.1 hq.1 (by decide)
  · exact wlt hq.2 hq.2 (by decide)
  · rw [toNat_mul, Rat.mul_def']
theorem okPair (T : Txt K mg cE cW) : Met P w K mg base 1 cE "pair" (spPair K cE) [] := by
  have sc : FnScope ["self"] ["self"] (defScope (cls 9 9)) := ⟨rfl, rfl, rfl, by decide +kernel, rfl, by decide +kernel, by decide +kernel⟩
  refine T.mPair.met T.clE sc (spF_len fun _ => rfl) fun cdv f A outer s H vs Q E hr h => ?_
  obtain ⟨q, hq, ⟨v, rs, rfl, p, e⟩, k⟩ := h
  cases e
  refine ⟨_, pss_one (ps_ret (pe_tup (pa_cons (pe_fld (pv 0) rfl) (pa_cons (pe_fld (pv 0) rfl) pa_nil)))), ?_⟩
  exact p_ret (ep_tup (ea_cons (ep_top T (ep_var rfl p)) (ea_cons (ep_bottom T (ep_var rfl p)) ea_nil)) (by show 2 ≤ 1000; decide)) k
theorem cp_isiE (T : Txt K mg cE cW) {q : Rat} : CP (rIsi K) [pE cE q, pV (.ref cE)] H (pB true) := fun vs H1 _ ps Q k => by
  obtain ⟨v, r, rfl, p, v2, r2, rfl, p2, e⟩ := ps
  cases e
  cases p2
  obtain ⟨a, dx, rfl, hp⟩ := p
  exact ⟨_, _, _, _, true, rfl, .own cE, .base (.ins hp T.clE T.clsE T.getC T.takC T.mroE), T.kitE, k _ H1 (Ex.refl H1) rfl⟩
theorem okEqE (T : Txt K mg cE cW) : Met P w K mg base 1 cE "__eq__" (spEqE cE) [] := by
  have sc : FnScope ["self", "other"] ["self", "other"] (defScope (cls 9 4)) := ⟨rfl, rfl, rfl, by decide +kernel, rfl, by decide +kernel, by decide +kernel⟩
  refine T.mEq.met T.clE sc (spF_len fun _ => rfl) fun cdv f A outer s H vs Q E hr h => ?_
  obtain ⟨⟨q, r⟩, _, ⟨v, rs, rfl, p, v2, r2, rfl, p2, e⟩, k⟩ := h
  cases e
  obtain ⟨_, _, _, _, hmE, _⟩ := T.iE.ex
  refine ⟨_, pss_one (ps_ret (pe_and (pe_callB call_isi (by rfl) T.b_isi (by decide +kernel) (pa_cons (pv 1) (pa_cons (pe_glob (v := .ref cE) rfl hmE rfl) pa_nil)))
    (pe_and (pe_cmpR op_eq (pe_fld (pv 0) rfl) (pe_fld (pv 1) rfl) (nomark _)) (pe_one (pe_cmpR op_eq (pe_fld (pv 0) rfl) (pe_fld (pv 1) rfl) (nomark _)))))), ?_⟩
  refine p_ret (ep_bis (ep_and (ep_cb (ea_cons (ep_var rfl p2) (ea_cons ep_c ea_nil)) (cp_isiE T)) fun _ => ep_and (ep_op (ep_top T (ep_var rfl p)) (ep_top T (ep_var rfl p2)) rp_eqI) fun _ => ep_op (ep_bottom T (ep_var rfl p)) (ep_bottom T (ep_var rfl p2)) rp_eqI) ?_) k
  rw [Bool.true_and]
  by_cases h1 : q = r
  · subst h1; simp
  · by_cases h2 : q.num = r.num
    · have h3 : ¬ (q.den : Int) = (r.den : Int) := fun z => h1 (Rat.ext h2 (by omega))
      simp [h1, h3]
    · simp [h1, h2]

/-! ### the same as operators -/
theorem ep_meth {sp : Sp} {C : Addr} {m : Str} {E : XK} {ta : TA} {P R : PD} {Ps : List PD} (ho : EvP te σ H P) (hi : ∀ v H1, Ex H H1 → P.p v H1 → ∃ a dx fs, v = .ref a ∧ H1 a = some (.ins C dx fs) ∧ fs.lookup m = none) (ha : EvPA ta σ H Ps) (hs : SPP sp (P :: Ps) H R) : EvP (tMeth C m sp [] E te ta) σ H R := fun H1 e Q q =>
  ho H1 e _ fun v H2 e2 p => by
    obtain ⟨a, dx, fs, rfl, h1, h2⟩ := hi v H2 (e.trans e2) p
    refine ⟨a, dx, fs, rfl, h1, h2, ha H2 (e.trans e2) _ fun vs H3 e3 ps => ?_⟩
    rw [List.append_nil]
    exact hs _ H3 ((e.trans e2).trans e3) ⟨_, _, rfl, P.up e3 p, ps⟩ Q E fun z H4 e4 pz => q z H4 ((e2.trans e3).trans e4) pz
theorem pE_ins {C : Addr} {q : Rat} {v : V} {H1 : Hp} {m : Str} (h1 : ¬ m = "bottom") (h2 : ¬ m = "top") (p : (pE C q).p v H1) : ∃ a dx fs, v = .ref a ∧ H1 a = some (.ins C dx fs) ∧ fs.lookup m = none := by
  obtain ⟨a, dx, rfl, hp⟩ := p
  exact ⟨a, dx, _, rfl, hp, fldsE_no q h1 h2⟩
theorem ep_over {q r : Rat} {E : XK} (h1 : EvP te σ H (pE cE q)) (h2 : EvP tx σ H (pE cE r)) (hq : Sz 1900 q) (hr : Sz 1900 r) (h0 : 0 < r) : EvP (tMeth cE "over" (spOver cE) [] E te (tCons tx tNil)) σ H (pE cE (q / r)) :=
  ep_meth h1 (fun v H1 _ p => pE_ins (by decide +kernel) (by decide +kernel) p) (ea_cons h2 ea_nil) (spp (q, r) ⟨hq, hr, h0⟩)
theorem ep_square {q : Rat} {E : XK} (h1 : EvP te σ H (pE cE q)) (hq : Sz 1900 q) : EvP (tMeth cE "square" (spSquare cE) [] E te tNil) σ H (pE cE (q * q)) :=
  ep_meth h1 (fun v H1 _ p => pE_ins (by decide +kernel) (by decide +kernel) p) ea_nil (spp q hq)
theorem ep_pair {q : Rat} {E : XK} (h1 : EvP te σ H (pE cE q)) : EvP (tMeth cE "pair" (spPair K cE) [] E te tNil) σ H (pT K [pI q.num, pI (q.den : Nat)]) :=
  ep_meth h1 (fun v H1 _ p => pE_ins (by decide +kernel) (by decide +kernel) p) ea_nil (spp q trivial)
theorem rp_own {sp : Sp} {E : XK} {q r : Rat} {R : PD} (hs : SPP sp [pE cE q, pE cE r] H R) : RP (rOwnB cE sp E) (pE cE q) (pE cE r) H R := fun x y H1 e p p' Q k => by
  obtain ⟨a, dx, rfl, hp⟩ := id p
  obtain ⟨b, dy, rfl, hp'⟩ := id p'
  exact ⟨a, dx, _, b, dy, _, rfl, rfl, hp, hp', hs _ H1 e ⟨_, _, rfl, p, _, _, rfl, p', rfl⟩ Q E k⟩
theorem rp_mulE {E : XK} {q r : Rat} (hq : Sz 1900 q) (hr : Sz 1900 r) : RP (rOwnB cE (spMul cE) E) (pE cE q) (pE cE r) H (pE cE (q * r)) := rp_own (spp (q, r) ⟨hq, hr⟩)
theorem rp_addE {E : XK} {q r : Rat} (hq : Sz 1900 q) (hr : Sz 1900 r) : RP (rOwnB cE (spAdd cE) E) (pE cE q) (pE cE r) H (pE cE (q + r)) := rp_own (spp (q, r) ⟨hq, hr⟩)
theorem rp_eqE {E : XK} {q r : Rat} : RP (rOwnB cE (spEqE cE) E) (pE cE q) (pE cE r) H (pB (decide (q = r))) := rp_own (spp (q, r) trivial)
theorem rp_neE {E : XK} {q r : Rat} : RP (rOwnNe cE (spEqE cE) E) (pE cE q) (pE cE r) H (pB (!decide (q = r))) := fun x y H1 e p p' Q k => by
  obtain ⟨a, dx, rfl, hp⟩ := id p
  obtain ⟨b, dy, rfl, hp'⟩ := id p'
  refine ⟨a, dx, _, b, dy, _, rfl, rfl, hp, hp', (q, r), trivial, ⟨_, _, rfl, p, _, _, rfl, p', rfl⟩, fun v H' e' pv => ⟨_, pv, k _ H' e' rfl⟩⟩
variable {X : Cx} {j : Nat}
theorem op_mulE (T : Txt X.K X.mg cE cW) (hr : Room j X.A) (h : 4 ≤ j) : OpR X (binaryOp .Mult) (rOwnB cE (spMul cE) L2.E0) := by
  obtain ⟨f, fd, ps, ds, _, hm, F, hb, hd⟩ := (okMul (P := X.prog) (w := X.w) (base := X.base) T).ex
  cases hd
  exact op_binOwn T.selfE hm.at_ hm.fn F (hr.mono h) hb C8.pass0
theorem op_addE (T : Txt X.K X.mg cE cW) (hr : Room j X.A) (h : 4 ≤ j) : OpR X (binaryOp .Add) (rOwnB cE (spAdd cE) L2.E0) := by
  obtain ⟨f, fd, ps, ds, _, hm, F, hb, hd⟩ := (okAdd (P := X.prog) (w := X.w) (base := X.base) T).ex
  cases hd
  exact op_binOwn T.selfE hm.at_ hm.fn F (hr.mono h) hb C8.pass0
theorem op_eqE (T : Txt X.K X.mg cE cW) (hr : Room j X.A) (h : 1 ≤ j) : OpR X (compareOp .Eq) (rOwnB cE (spEqE cE) L2.E0) := by
  obtain ⟨f, fd, ps, ds, _, hm, F, hb, hd⟩ := (okEqE (P := X.prog) (w := X.w) (base := X.base) T).ex
  cases hd
  exact op_eqOwn hm.at_ hm.fn F (hr.mono h) hb C8.pass0
theorem op_neE (T : Txt X.K X.mg cE cW) (hr : Room j X.A) (h : 2 ≤ j) : OpR X (compareOp .NotEq) (rOwnNe cE (spEqE cE) L2.E0) := by
  obtain ⟨f, fd, ps, ds, _, hm, F, hb, hd⟩ := (okEqE (P := X.prog) (w := X.w) (base := X.base) T).ex
  cases hd
  exact op_neOwn T.neE T.mroE hm.at_ hm.fn F (hr.mono h) hb C8.pass0
end

/-! ### exact, is_fraction, is_some -/
def ratD (q : Rat) : PyData := .tuple [.int q.num, .int (q.den : Nat)]
section
variable {P : Program} {w : World} {K : PySem.W.Frag} {mg : Str → Option Value} {base : Heap} {cE cW : Addr} {σ : L2.St} {H : Hp} {te tx : TE}
theorem pD_int {i : Int} {v : V} {H : Hp} (h : (pD K (.int i)).p v H) : (pI i).p v H := Dp.int_inv h
theorem ep_ixI {ds : List PyData} {i : Nat} {n : Int} (h : EvP te σ H (pD K (.tuple ds))) (hi : EvP tx σ H (pI (i : Int))) (e : ds[i]? = some (.int n)) : EvP (tOp (rIxT K) te tx) σ H (pI n) := (ep_op h hi (rp_ixT e)).imp fun _ _ _ p => pD_int p
theorem ep_ixD {ds : List PyData} {i : Nat} {d : PyData} (h : EvP te σ H (pD K (.tuple ds))) (hi : EvP tx σ H (pI (i : Int))) (e : ds[i]? = some d) : EvP (tOp (rIxT K) te tx) σ H (pD K d) := ep_op h hi (rp_ixT e)
def spExact (K : PySem.W.Frag) (C : Addr) : Sp := spF (fun (q : Rat) => [pD K (ratD q)]) (fun q => pE C q) (fun q => Sz 1900 q)
theorem big_of {n : Nat} (h : n < 2 ^ 1900) : n < 2 ^ BIG := Nat.lt_of_lt_of_le h (Nat.pow_le_pow_right (by decide) (by decide))
theorem ok10 (T : Txt K mg cE cW) : Cal P w K mg base 4 "exact" (spExact K cE) [] := by
  have sc : FnScope ["pair"] ["pair"] (defScope (top 10)) := ⟨rfl, rfl, rfl, by decide +kernel, rfl, by decide +kernel, by decide +kernel⟩
  refine T.d10.cal sc (spF_len fun _ => rfl) fun cdv f A outer s H vs Q E hr h => ?_
  obtain ⟨q, hq, ⟨v, rs, rfl, p, e⟩, k⟩ := h
  cases e
  refine ⟨_, pss_one (ps_ret (pe_mk (okInitE T) hr (by decide) rfl (pa_cons (pe_ix ix_tup (pv 0) pe_int (fun _ _ => rfl)) (pa_cons (pe_ix ix_tup (pv 0) pe_int (fun _ _ => rfl)) pa_nil)))), ?_⟩
  refine p_ret (ep_mkE' (q := q) (a := q.num) (b := (q.den : Nat)) (ea_cons (ep_ixI (i := 0) (ep_var rfl p) ep_i rfl) (ea_cons (ep_ixI (i := 1) (ep_var rfl p) ep_i rfl) ea_nil)) (den_posI q) (big_of hq.1) (big_of hq.2) ?_) k
  exact Rat.mkRat_self q
def spIsFrac (K : PySem.W.Frag) : Sp := spF (fun (q : Rat) => [pD K (ratD q)]) (fun _ => pB true) (fun _ => True)
theorem ok12 (T : Txt K mg cE cW) : Cal P w K mg base 2 "is_fraction" (spIsFrac K) [] := by
  have sc : FnScope ["thing"] ["thing"] (defScope (top 12)) := ⟨rfl, rfl, rfl, by decide +kernel, rfl, by decide +kernel, by decide +kernel⟩
  refine T.d12.cal sc (spF_len fun _ => rfl) fun cdv f A outer s H vs Q E hr h => ?_
  obtain ⟨q, hq, ⟨v, rs, rfl, p, e⟩, k⟩ := h
  cases e
  refine ⟨_, pss_cons (ps_if (PW.pt (pw_or (pt_not (pt_val (pe_callB call_isi (by rfl) T.b_isi (by decide +kernel) (pa_cons (pv 0) (pa_cons (pe_bltn (v := .ty "tuple") (by rfl) T.b_tuple (by decide +kernel) rfl) pa_nil)))))
      (pw_or (pt_cmpR op_ne (pe_callB call_len_seq (by rfl) T.b_len (by decide +kernel) (pa_cons (pv 0) pa_nil)) pe_int (nomark _))
      (pw_or (pt_not (pt_val (pe_c (ok7 T) hr (by decide) rfl (pa_cons (pe_ix ix_tup (pv 0) pe_int (fun _ _ => rfl)) pa_nil))))
      (pw_or1 (pt_not (pt_val (pe_c (ok7 T) hr (by decide) rfl (pa_cons (pe_ix ix_tup (pv 0) pe_int (fun _ _ => rfl)) pa_nil))))))))) (pss_one (ps_ret pe_bl)) pss_nil)
    (pss_one (ps_ret (pe_and (pe_cmpR op_gt (pe_ix ix_tup (pv 0) pe_int (fun _ _ => rfl)) pe_int (nomark _))
      (pe_one (pe_cmpR op_eq (pe_c (ok8 T) hr (by decide) rfl (pa_cons (pe_ix ix_tup (pv 0) pe_int (fun _ _ => rfl)) (pa_cons (pe_ix ix_tup (pv 0) pe_int (fun _ _ => rfl)) pa_nil))) pe_int (nomark _)))))), ?_⟩
  refine p_pass (et_is (et_or (et_not (pt_B (ep_cb (ea_cons (ep_var rfl p) (ea_cons ep_c ea_nil)) cp_isiT))) fun _ => et_or (pt_test (ep_op (ep_cb (ea_cons (ep_var rfl p) ea_nil) cp_lenT) ep_i rp_neI))
    fun _ => et_or (et_not (pt_B (ep_call q.num trivial (ea_cons (ep_ixI (i := 0) (ep_var rfl p) ep_i rfl) ea_nil)))) fun _ => et_not (pt_B (ep_call (q.den : Int) trivial (ea_cons (ep_ixI (i := 1) (ep_var rfl p) ep_i rfl) ea_nil)))) (by rfl)) fun H1 e1 => ?_
  refine p_ret (ep_bis (ep_and (ep_op (ep_ixI (i := 1) (ep_var rfl (PD.up _ e1 p)) ep_i rfl) ep_i rp_I0b) fun _ => ep_op (ep_call (q.num, (q.den : Int)) trivial (ea_cons (ep_ixI (i := 0) (ep_var rfl (PD.up _ e1 p)) ep_i rfl) (ea_cons (ep_ixI (i := 1) (ep_var rfl (PD.up _ e1 p)) ep_i rfl) ea_nil))) ep_i rp_eqI) ?_) fun v H2 e2 => k v H2 (e1.trans e2)
  have h1 := den_posI q
  have h2 : Int.gcd q.num (q.den : Int) = 1 := q.reduced
  simp only [h2, h1, decide_true, Bool.true_and]
  rfl
def spIsSome (K : PySem.W.Frag) : Sp := spF (fun (q : Rat) => [pD K (ratD q)]) (fun _ => pB true) (fun q => 0 < q)
theorem ok13 (T : Txt K mg cE cW) : Cal P w K mg base 3 "is_some" (spIsSome K) [] := by
  have sc : FnScope ["thing"] ["thing"] (defScope (top 13)) := ⟨rfl, rfl, rfl, by decide +kernel, rfl, by decide +kernel, by decide +kernel⟩
  refine T.d13.cal sc (spF_len fun _ => rfl) fun cdv f A outer s H vs Q E hr h => ?_
  obtain ⟨q, hq, ⟨v, rs, rfl, p, e⟩, k⟩ := h
  cases e
  refine ⟨_, pss_one (ps_ret (pe_and (pe_c (ok12 T) hr (by decide) rfl (pa_cons (pv 0) pa_nil)) (pe_one (pe_cmpR op_gt (pe_ix ix_tup (pv 0) pe_int (fun _ _ => rfl)) pe_int (nomark _))))), ?_⟩
  refine p_ret (ep_bis (ep_and (ep_call q trivial (ea_cons (ep_var rfl p) ea_nil)) fun _ => ep_op (ep_ixI (i := 0) (ep_var rfl p) ep_i rfl) ep_i rp_I0b) ?_) k
  have := num_pos hq
  simp [this]
/-- 0 <= thing < wares -/
def spBelow : Sp := spF (fun (a : Nat × Nat) => [pI a.1, pI a.2]) (fun a => pB (decide (a.1 < a.2))) (fun _ => True)
theorem ok17 (T : Txt K mg cE cW) : Cal P w K mg base 2 "is_ware_below" spBelow [] := by
  have sc : FnScope ["thing", "wares"] ["thing", "wares"] (defScope (top 17)) := ⟨rfl, rfl, rfl, by decide +kernel, rfl, by decide +kernel, by decide +kernel⟩
  refine T.d17.cal sc (spF_len fun _ => rfl) fun cdv f A outer s H vs Q E hr h => ?_
  obtain ⟨⟨a, b⟩, _, ⟨v, rs, rfl, p, v2, rs2, rfl, p2, e⟩, k⟩ := h
  cases e
  cases p
  cases p2
  refine ⟨_, pss_one (ps_ret (pe_and (pe_c (ok7 T) hr (by decide) rfl (pa_cons (pv 0) pa_nil)) (pe_one (pe_chain op_le op_lt pe_int (pv 0) (pv 1))))), ?_⟩
  refine p_ret (ep_bis (ep_and (ep_call (a : Int) trivial (ea_cons (ep_vi rfl) ea_nil)) fun _ => ep_chain ep_i (ep_vi rfl) (ep_vi rfl)) ?_) k
  simp
end
end K43
set_option Elab.async false
set_option linter.all false
set_option maxRecDepth 100000
set_option maxHeartbeats 4000000
/-! k43, part S1: lists that grow; comprehensions. -/
namespace K43
open PySem PySem.Spec L2 Evl C8

/-! ### what does not lean on a list -/
mutual
def noList : PyData → Bool
  | .none | .bool _ | .int _ | .str _ => true
  | .list _ => false
  | .tuple xs => noListAll xs
  | .dict _ => false
def noListAll : List PyData → Bool
  | [] => true
  | x :: xs => noList x && noListAll xs
end
theorem sqT_lst {K : PySem.W.Frag} {H : Hp} {D a : Addr} {o : HO} {acc xs : List V} (h : H D = some (.lst acc)) (q : SqT K H a xs) : SqT K (upd H D o) a xs := by
  rcases q with (q | ⟨ob, q⟩) | q
  · exact .inl (.inl (by rw [upd_ne (ne_of q h (by intro z; cases z))]; exact q))
  · exact .inl (.inr ⟨ob, by rw [upd_ne (ne_of q h (by intro z; cases z))]; exact q⟩)
  · exact .inr q
mutual
theorem Dp.lst {K : PySem.W.Frag} {H : Hp} {D : Addr} {o : HO} {acc : List V} (h : H D = some (.lst acc)) : ∀ {v : V} {d : PyData}, noList d = true → Dp K H v d → Dp K (upd H D o) v d
  | _, _, _, .non => .non
  | _, _, _, .bl b => .bl b
  | _, _, _, .int i => .int i
  | _, _, _, .str x => .str x
  | _, _, n, .lst _ _ => by simp [noList] at n
  | _, _, n, .tup q a => .tup (sqT_lst h q) (DpAll.lst h (by simpa [noList] using n) a)
theorem DpAll.lst {K : PySem.W.Frag} {H : Hp} {D : Addr} {o : HO} {acc : List V} (h : H D = some (.lst acc)) : ∀ {vs : List V} {ds : List PyData}, noListAll ds = true → DpAll K H vs ds → DpAll K (upd H D o) vs ds
  | _, _, _, .nil => .nil
  | _, _, n, .cons a t => by
    have n' := (Bool.and_eq_true _ _).mp (by simpa only [noListAll] using n)
    exact .cons (Dp.lst h n'.1 a) (DpAll.lst h n'.2 t)
end
/-- a predicate that stands when a list changes -/
structure PD.St (P : PD) : Prop where
  st : ∀ {v : V} {H : Hp} {D : Addr} {acc : List V} {o : HO}, H D = some (.lst acc) → P.p v H → P.p v (upd H D o)
theorem st_I {i : Int} : (pI i).St := ⟨fun _ p => p⟩
theorem st_B {b : Bool} : (pB b).St := ⟨fun _ p => p⟩
theorem st_V {x : V} : (pV x).St := ⟨fun _ p => p⟩
theorem st_D {K : PySem.W.Frag} {d : PyData} (n : noList d = true) : (pD K d).St := ⟨fun h p => Dp.lst h n p⟩
theorem st_E {C : Addr} {q : Rat} : (pE C q).St := ⟨fun {v H D acc o} h p => by
  obtain ⟨a, dx, rfl, hp⟩ := p
  exact ⟨a, dx, rfl, by rw [upd_ne (ne_of hp h (by intro z; cases z))]; exact hp⟩⟩
theorem Alls.st {Ps : List PD} (h : ∀ P ∈ Ps, PD.St P) {D : Addr} {H : Hp} {acc : List V} {o : HO} (hD : H D = some (.lst acc)) : ∀ {vs : List V}, Alls Ps vs H → Alls Ps vs (upd H D o) := by
  induction Ps with
  | nil => exact fun q => q
  | cons P Ps ih =>
    rintro vs ⟨v, r, e, p, t⟩
    exact ⟨v, r, e, (h P (List.mem_cons_self ..)).st hD p, ih (fun P' hp => h P' (List.mem_cons_of_mem _ hp)) t⟩
theorem st_T {K : PySem.W.Frag} {Ps : List PD} (h : ∀ P ∈ Ps, PD.St P) : (pT K Ps).St := ⟨fun {v H D acc o} hD p => by
  obtain ⟨a, xs, rfl, q, t⟩ := p
  exact ⟨a, xs, rfl, sqT_lst hD q, Alls.st h hD t⟩⟩
theorem Alls.snoc {Ps : List PD} {P : PD} {H : Hp} {v : V} (p : P.p v H) : ∀ {vs : List V}, Alls Ps vs H → Alls (Ps ++ [P]) (vs ++ [v]) H := by
  induction Ps with
  | nil => intro vs h; cases h; exact ⟨v, [], rfl, p, rfl⟩
  | cons Q Ps ih =>
    rintro vs ⟨x, r, rfl, q, t⟩
    exact ⟨x, r ++ [v], rfl, q, ih t⟩
theorem Alls.get {H : Hp} : ∀ {Ps : List PD} {vs : List V} {i : Nat} {P : PD}, Alls Ps vs H → Ps[i]? = some P → ∃ v, vs[i]? = some v ∧ P.p v H
  | _ :: _, _, 0, _, ⟨v, r, e, p, t⟩, h => by
    subst e
    cases h
    exact ⟨v, rfl, p⟩
  | _ :: _, _, i + 1, _, ⟨v, r, e, p, t⟩, h => by
    subst e
    obtain ⟨x, h1, h2⟩ := Alls.get (i := i) t (by simpa using h)
    exact ⟨x, by simpa using h1, h2⟩
  | [], _, _, _, _, h => by simp at h
theorem Alls.getv {H : Hp} : ∀ {Ps : List PD} {vs : List V} {i : Nat} {v : V}, Alls Ps vs H → vs[i]? = some v → ∃ P, Ps[i]? = some P ∧ P.p v H
  | _ :: _, _, 0, _, ⟨v, r, e, p, t⟩, h => by
    subst e
    cases h
    exact ⟨_, rfl, p⟩
  | _ :: _, _, i + 1, _, ⟨v, r, e, p, t⟩, h => by
    subst e
    obtain ⟨x, h1, h2⟩ := Alls.getv (i := i) t (by simpa using h)
    exact ⟨x, by simpa using h1, h2⟩
  | [], _, _, _, e, h => by cases e; simp at h
/-- a list of such values -/
def pL (K : PySem.W.Frag) (Ps : List PD) : PD := ⟨fun v H => ∃ a xs, v = .ref a ∧ SqL K H a xs ∧ Alls Ps xs H, fun e ⟨a, xs, h, h1, h2⟩ => ⟨a, xs, h, ex_l e h1, Alls.up e h2⟩⟩
theorem pD_pL {K : PySem.W.Frag} {ds : List PyData} {v : V} {H : Hp} (h : (pD K (.list ds)).p v H) : (pL K (ds.map (pD K))).p v H := by
  obtain ⟨a, xs, rfl, h1, h2⟩ := Dp.lst_inv h
  exact ⟨a, xs, rfl, h1, pD_pT h2⟩
theorem pL_pD {K : PySem.W.Frag} {ds : List PyData} {v : V} {H : Hp} (h : (pL K (ds.map (pD K))).p v H) : (pD K (.list ds)).p v H := by
  obtain ⟨a, xs, rfl, h1, h2⟩ := h
  exact .lst h1 (pT_pD h2)
theorem pD_pTt {K : PySem.W.Frag} {ds : List PyData} {v : V} {H : Hp} (h : (pD K (.tuple ds)).p v H) : (pT K (ds.map (pD K))).p v H := by
  obtain ⟨a, xs, rfl, h1, h2⟩ := Dp.tup_inv h
  exact ⟨a, xs, rfl, h1, pD_pT h2⟩
theorem pTt_pD {K : PySem.W.Frag} {ds : List PyData} {v : V} {H : Hp} (h : (pT K (ds.map (pD K))).p v H) : (pD K (.tuple ds)).p v H := by
  obtain ⟨a, xs, rfl, h1, h2⟩ := h
  exact .tup h1 (pT_pD h2)
theorem pI_pD {K : PySem.W.Frag} {i : Int} {v : V} {H : Hp} (h : (pI i).p v H) : (pD K (.int i)).p v H := by
  cases h; exact .int i
theorem pB_pD {K : PySem.W.Frag} {b : Bool} {v : V} {H : Hp} (h : (pB b).p v H) : (pD K (.bool b)).p v H := by
  cases h; exact .bl b
theorem Alls.impl {H : Hp} : ∀ {Ps Rs : List PD} {vs : List V}, Ps.length = Rs.length → (∀ (i : Nat) (P R : PD) (v : V), Ps[i]? = some P → Rs[i]? = some R → P.p v H → R.p v H) → Alls Ps vs H → Alls Rs vs H
  | [], [], _, _, _, h => h
  | P :: Ps, R :: Rs, _, hl, h, ⟨v, r, e, p, t⟩ => ⟨v, r, e, h 0 P R v rfl rfl p, Alls.impl (by simpa using hl) (fun i P R v h1 h2 => h (i + 1) P R v (by simpa using h1) (by simpa using h2)) t⟩
  | [], _ :: _, _, hl, _, _ => by simp at hl
  | _ :: _, [], _, hl, _, _ => by simp at hl
theorem Alls.map_impl {β : Type} {H : Hp} {f g : β → PD} {bs : List β} {vs : List V} (h : ∀ b ∈ bs, ∀ v, (f b).p v H → (g b).p v H) (q : Alls (bs.map f) vs H) : Alls (bs.map g) vs H := by
  refine Alls.impl (by simp) (fun i P R v h1 h2 p => ?_) q
  rw [List.getElem?_map] at h1 h2
  cases e : bs[i]? with
  | none => rw [e] at h1; cases h1
  | some b =>
    rw [e] at h1 h2
    cases h1
    cases h2
    exact h b (List.mem_of_getElem? e) v p

section
variable {K : PySem.W.Frag} {σ : L2.St} {H H' : Hp} {ta tb te tl tx : TE} {t tt : TT} {x y z v : V} {r : R2} {P P' R : PD} {β : Type}
theorem et_yes : EvT tYes σ H true := fun H1 _ _ q => q H1 (Ex.refl H1)
theorem filter_snoc {p : β → Bool} {bs : List β} {i : Nat} {b : β} (h : bs[i]? = some b) : (bs.take (i + 1)).filter p = (bs.take i).filter p ++ (if p b = true then [b] else []) := by
  have e : bs.take (i + 1) = bs.take i ++ [b] := by
    rw [List.take_add_one, h]
    rfl
  rw [e, List.filter_append]
  congr 1
  cases hp : p b <;> simp [hp]
/-- between two turns of a comprehension -/
def Cp (H1 : Hp) (D : Addr) (Ps : List PD) (H' : Hp) : Prop := H1 D = none ∧ Ex H1 H' ∧ ∃ acc, H' D = some (.lst acc) ∧ Alls Ps acc H'
theorem Cp.ret {K : PySem.W.Frag} {H1 : Hp} {D : Addr} {Ps : List PD} {H' : Hp} (h : Cp H1 D Ps H') : (pL K Ps).p (.ref D) H' := by
  obtain ⟨_, _, acc, h1, h2⟩ := h
  exact ⟨D, acc, rfl, SqL.of h1, h2⟩
/-- a new list of such values -/
def pLN (H0 : Hp) (Ps : List PD) : PD := ⟨fun v H => ∃ a xs, v = .ref a ∧ H0 a = none ∧ H a = some (.lst xs) ∧ Alls Ps xs H, fun e ⟨a, xs, h, n, h1, h2⟩ => ⟨a, xs, h, n, e _ _ h1, Alls.up e h2⟩⟩
theorem Cp.retN {H H1 : Hp} {D : Addr} {Ps : List PD} {H' : Hp} (e : Ex H H1) (h : Cp H1 D Ps H') : (pLN H Ps).p (.ref D) H' := by
  obtain ⟨h0, _, acc, h1, h2⟩ := h
  exact ⟨D, acc, rfl, fresh_back e h0, h1, h2⟩
theorem pLN_pL {K : PySem.W.Frag} {H0 : Hp} {Ps : List PD} {v : V} {H : Hp} (h : (pLN H0 Ps).p v H) : (pL K Ps).p v H := by
  obtain ⟨a, xs, rfl, _, h1, h2⟩ := h
  exact ⟨a, xs, rfl, SqL.of h1, h2⟩
/-- one turn: the test, the element -/
theorem cp_turn {H1 H' : Hp} {D : Addr} {Ps : List PD} {pb : Bool} {Pe : PD} {σ2 : L2.St} (h : Cp H1 D Ps H') (hz : Ps.length ≤ 10000) (ht : EvT tt σ2 H' pb) (he : pb = true → EvP te σ2 H' Pe) (hs : pb = true → Pe.St) (hS : ∀ P ∈ Ps, PD.St P) :
    tt σ2 H' fun b H3 => if b = true then te σ2 H3 fun y H4 => ∃ acc, H4 D = some (.lst acc) ∧ acc.length < sizeLine ∧ Cp H1 D (Ps ++ (if pb = true then [Pe] else [])) (upd H4 D (.lst (acc ++ [y]))) else Cp H1 D (Ps ++ (if pb = true then [Pe] else [])) H3 := by
  obtain ⟨h1, h2, acc, h3, h4⟩ := h
  refine ht H' (Ex.refl H') _ fun H3 e3 => ?_
  cases pb with
  | true =>
    show te σ2 H3 fun y H4 => ∃ acc, H4 D = some (.lst acc) ∧ acc.length < sizeLine ∧ Cp H1 D (Ps ++ [Pe]) (upd H4 D (.lst (acc ++ [y])))
    refine he rfl H3 e3 _ fun y H4 e4 p => ⟨acc, e4 _ _ (e3 _ _ h3), ?_, h1, Ex.mut ((h2.trans e3).trans e4) h1, acc ++ [y], upd_same, ?_⟩
    · have := Alls.len h4
      exact sz_lt (by omega)
    · exact Alls.snoc ((hs rfl).st (e4 _ _ (e3 _ _ h3)) p) (Alls.st hS (e4 _ _ (e3 _ _ h3)) (Alls.up (e3.trans e4) h4))
  | false =>
    show Cp H1 D (Ps ++ []) H3
    rw [List.append_nil]
    exact ⟨h1, h2.trans e3, acc, e3 _ _ h3, Alls.up e3 h4⟩
theorem take_map_filter {p : β → Bool} {f : β → PD} {bs : List β} {i : Nat} {b : β} (h : bs[i]? = some b) : ((bs.take (i + 1)).filter p).map f = ((bs.take i).filter p).map f ++ (if p b = true then [f b] else []) := by
  rw [filter_snoc h, List.map_append]
  congr 1
  split <;> rfl
theorem len_tf {p : β → Bool} {f : β → PD} {bs : List β} {i : Nat} (hz : bs.length ≤ 10000) : (((bs.take i).filter p).map f).length ≤ 10000 := by
  rw [List.length_map]
  have h1 := List.length_filter_le p (bs.take i)
  rw [List.length_take] at h1
  omega
theorem mem_tf {p : β → Bool} {f : β → PD} {bs : List β} {i : Nat} (hS : ∀ b ∈ bs, p b = true → (f b).St) : ∀ P ∈ ((bs.take i).filter p).map f, PD.St P := by
  intro P hP
  obtain ⟨b, hb, rfl⟩ := List.mem_map.mp hP
  have hb' := List.mem_filter.mp hb
  exact hS b (List.mem_of_mem_take hb'.1) hb'.2
/-- [e for x in t if c], t a tuple; and a list -/
theorem ep_lcT {bs : List β} {src res : β → PD} {p : β → Bool} {j : Nat} {vs : List Nat} (h : EvP tl σ H (pT K (bs.map src))) (hz : bs.length ≤ 10000) (hw : ∀ x, wipe ((wipe σ vs).set j (some x)) vs = wipe σ vs)
    (ht : ∀ b ∈ bs, ∀ x H1, Ex H H1 → (src b).p x H1 → EvT tt ((wipe σ vs).set j (some x)) H1 (p b)) (he : ∀ b ∈ bs, p b = true → ∀ x H1, Ex H H1 → (src b).p x H1 → EvP te ((wipe σ vs).set j (some x)) H1 (res b)) (hS : ∀ b ∈ bs, p b = true → (res b).St) :
    EvP (tLc (iTup K tl) (gName j) tt te vs) σ H (pL K ((bs.filter p).map res)) := fun H0 e Q q => h H0 e _ fun v H1 e1 pv => by
  obtain ⟨a, xs, rfl, hx, hA⟩ := pv
  have hl : xs.length = bs.length := by rw [Alls.len hA, List.length_map]
  refine ⟨a, rfl, ⟨xs, hx⟩, fun D hD => lc_tup (xs := xs) (fun i H' => Cp H1 D (((bs.take i).filter p).map res) H') ⟨hD, Ex.new hD, [], upd_same, by rw [List.take_zero]; rfl⟩ (fun i H' _ c => ex_t c.2.1 hx) (fun i x H' hi c => ⟨hw x, ?_⟩) fun H' c => ?_⟩
  · obtain ⟨P, hP, px⟩ := Alls.getv hA hi
    rw [List.getElem?_map] at hP
    cases eb : bs[i]? with
    | none => rw [eb] at hP; cases hP
    | some b =>
      rw [eb] at hP
      cases hP
      have hb := List.mem_of_getElem? eb
      have ex : Ex H H' := (e.trans e1).trans c.2.1
      have px' := PD.up _ c.2.1 px
      rw [take_map_filter eb]
      exact cp_turn c (len_tf hz) (ht b hb x H' ex px') (fun q => he b hb q x H' ex px') (fun q => hS b hb q) (mem_tf hS)
  · rw [hl, List.take_length] at c
    exact q _ H' (e1.trans c.2.1) c.ret
theorem ep_lcLFN {bs : List β} {src res : β → PD} {p : β → Bool} {j : Nat} {vs : List Nat} (h : EvP tl σ H (pL K (bs.map src))) (hz : bs.length ≤ 10000) (hw : ∀ x, wipe ((wipe σ vs).set j (some x)) vs = wipe σ vs)
    (ht : ∀ b ∈ bs, ∀ x H1, Ex H H1 → (src b).p x H1 → EvT tt ((wipe σ vs).set j (some x)) H1 (p b)) (he : ∀ b ∈ bs, p b = true → ∀ x H1, Ex H H1 → (src b).p x H1 → EvP te ((wipe σ vs).set j (some x)) H1 (res b)) (hS : ∀ b ∈ bs, p b = true → (res b).St) :
    EvP (tLc (iList K tl) (gName j) tt te vs) σ H (pLN H ((bs.filter p).map res)) := fun H0 e Q q => h H0 e _ fun v H1 e1 pv => by
  obtain ⟨a, xs, rfl, hx, hA⟩ := pv
  have hl : xs.length = bs.length := by rw [Alls.len hA, List.length_map]
  refine ⟨a, rfl, ⟨xs, hx⟩, fun D hD => lc_list (xs := xs) (fun i H' => Cp H1 D (((bs.take i).filter p).map res) H') ⟨hD, Ex.new hD, [], upd_same, by rw [List.take_zero]; rfl⟩ (fun i H' _ c => ex_l c.2.1 hx) (fun i x H' hi c => ⟨hw x, ?_⟩) fun H' c => ?_⟩
  · obtain ⟨P, hP, px⟩ := Alls.getv hA hi
    rw [List.getElem?_map] at hP
    cases eb : bs[i]? with
    | none => rw [eb] at hP; cases hP
    | some b =>
      rw [eb] at hP
      cases hP
      have hb := List.mem_of_getElem? eb
      have ex : Ex H H' := (e.trans e1).trans c.2.1
      have px' := PD.up _ c.2.1 px
      rw [take_map_filter eb]
      exact cp_turn c (len_tf hz) (ht b hb x H' ex px') (fun q => he b hb q x H' ex px') (fun q => hS b hb q) (mem_tf hS)
  · rw [hl, List.take_length] at c
    exact q _ H' (e1.trans c.2.1) (c.retN (e.trans e1))
theorem ep_lcL {bs : List β} {src res : β → PD} {p : β → Bool} {j : Nat} {vs : List Nat} (h : EvP tl σ H (pL K (bs.map src))) (hz : bs.length ≤ 10000) (hw : ∀ x, wipe ((wipe σ vs).set j (some x)) vs = wipe σ vs)
    (ht : ∀ b ∈ bs, ∀ x H1, Ex H H1 → (src b).p x H1 → EvT tt ((wipe σ vs).set j (some x)) H1 (p b)) (he : ∀ b ∈ bs, p b = true → ∀ x H1, Ex H H1 → (src b).p x H1 → EvP te ((wipe σ vs).set j (some x)) H1 (res b)) (hS : ∀ b ∈ bs, p b = true → (res b).St) :
    EvP (tLc (iList K tl) (gName j) tt te vs) σ H (pL K ((bs.filter p).map res)) := fun H0 e Q q => h H0 e _ fun v H1 e1 pv => by
  obtain ⟨a, xs, rfl, hx, hA⟩ := pv
  have hl : xs.length = bs.length := by rw [Alls.len hA, List.length_map]
  refine ⟨a, rfl, ⟨xs, hx⟩, fun D hD => lc_list (xs := xs) (fun i H' => Cp H1 D (((bs.take i).filter p).map res) H') ⟨hD, Ex.new hD, [], upd_same, by rw [List.take_zero]; rfl⟩ (fun i H' _ c => ex_l c.2.1 hx) (fun i x H' hi c => ⟨hw x, ?_⟩) fun H' c => ?_⟩
  · obtain ⟨P, hP, px⟩ := Alls.getv hA hi
    rw [List.getElem?_map] at hP
    cases eb : bs[i]? with
    | none => rw [eb] at hP; cases hP
    | some b =>
      rw [eb] at hP
      cases hP
      have hb := List.mem_of_getElem? eb
      have ex : Ex H H' := (e.trans e1).trans c.2.1
      have px' := PD.up _ c.2.1 px
      rw [take_map_filter eb]
      exact cp_turn c (len_tf hz) (ht b hb x H' ex px') (fun q => he b hb q x H' ex px') (fun q => hS b hb q) (mem_tf hS)
  · rw [hl, List.take_length] at c
    exact q _ H' (e1.trans c.2.1) c.ret
/-- [e for i in range(n) if c] -/
theorem ep_lcR {n : Nat} {res : Nat → PD} {p : Nat → Bool} {j : Nat} {vs : List Nat} {ta : TA} (h : EvPA ta σ H [pI (n : Int)]) (hz : n ≤ 10000) (hw : ∀ x, wipe ((wipe σ vs).set j (some x)) vs = wipe σ vs)
    (ht : ∀ i, i < n → ∀ H1, Ex H H1 → EvT tt ((wipe σ vs).set j (some (.int (i : Int)))) H1 (p i)) (he : ∀ i, i < n → p i = true → ∀ H1, Ex H H1 → EvP te ((wipe σ vs).set j (some (.int (i : Int)))) H1 (res i)) (hS : ∀ i, i < n → p i = true → (res i).St) :
    EvP (tLc (iRng1 ta) (gName j) tt te vs) σ H (pL K (((List.range n).filter p).map res)) := fun H0 e Q q => h H0 e _ fun ws H1 e1 ps => by
  obtain ⟨v, r, rfl, pv, er⟩ := ps
  cases er
  cases pv
  have hn : (n : Int).toNat = n := by omega
  refine ⟨n, rfl, by omega, by omega, fun D hD => lc_range (lo := 0) (n := (n : Int).toNat) (fun i H' => Cp H1 D ((((List.range n).take i).filter p).map res) H') ⟨hD, Ex.new hD, [], upd_same, by rw [List.take_zero]; rfl⟩ (fun i H' hi c => ?_) fun H' c => ?_⟩
  · have e0 : (0 : Int) + (i : Int) = (i : Int) := Int.zero_add _
    rw [hn] at hi
    have eb : (List.range n)[i]? = some i := by rw [List.getElem?_range hi]
    have ex : Ex H H' := (e.trans e1).trans c.2.1
    show wipe ((wipe σ vs).set j (some (.int ((0 : Int) + (i : Int))))) vs = wipe σ vs ∧ _
    rw [e0]
    refine ⟨hw _, ?_⟩
    rw [take_map_filter eb]
    exact cp_turn c (len_tf (by rw [List.length_range]; exact hz)) (ht i hi H' ex) (fun q => he i hi q H' ex) (fun q => hS i hi q) (mem_tf fun b hb => hS b (List.mem_range.mp hb))
  · rw [hn] at c
    have e5 : (List.range n).take n = List.range n := List.take_of_length_le (by rw [List.length_range]; exact Nat.le_refl _)
    rw [e5] at c
    exact q _ H' (e1.trans c.2.1) c.ret
theorem ep_lcRFN {n : Nat} {res : Nat → PD} {p : Nat → Bool} {j : Nat} {vs : List Nat} {ta : TA} (h : EvPA ta σ H [pI (n : Int)]) (hz : n ≤ 10000) (hw : ∀ x, wipe ((wipe σ vs).set j (some x)) vs = wipe σ vs)
    (ht : ∀ i, i < n → ∀ H1, Ex H H1 → EvT tt ((wipe σ vs).set j (some (.int (i : Int)))) H1 (p i)) (he : ∀ i, i < n → p i = true → ∀ H1, Ex H H1 → EvP te ((wipe σ vs).set j (some (.int (i : Int)))) H1 (res i)) (hS : ∀ i, i < n → p i = true → (res i).St) :
    EvP (tLc (iRng1 ta) (gName j) tt te vs) σ H (pLN H (((List.range n).filter p).map res)) := fun H0 e Q q => h H0 e _ fun ws H1 e1 ps => by
  obtain ⟨v, r, rfl, pv, er⟩ := ps
  cases er
  cases pv
  have hn : (n : Int).toNat = n := by omega
  refine ⟨n, rfl, by omega, by omega, fun D hD => lc_range (lo := 0) (n := (n : Int).toNat) (fun i H' => Cp H1 D ((((List.range n).take i).filter p).map res) H') ⟨hD, Ex.new hD, [], upd_same, by rw [List.take_zero]; rfl⟩ (fun i H' hi c => ?_) fun H' c => ?_⟩
  · have e0 : (0 : Int) + (i : Int) = (i : Int) := Int.zero_add _
    rw [hn] at hi
    have eb : (List.range n)[i]? = some i := by rw [List.getElem?_range hi]
    have ex : Ex H H' := (e.trans e1).trans c.2.1
    show wipe ((wipe σ vs).set j (some (.int ((0 : Int) + (i : Int))))) vs = wipe σ vs ∧ _
    rw [e0]
    refine ⟨hw _, ?_⟩
    rw [take_map_filter eb]
    exact cp_turn c (len_tf (by rw [List.length_range]; exact hz)) (ht i hi H' ex) (fun q => he i hi q H' ex) (fun q => hS i hi q) (mem_tf fun b hb => hS b (List.mem_range.mp hb))
  · rw [hn] at c
    have e5 : (List.range n).take n = List.range n := List.take_of_length_le (by rw [List.length_range]; exact Nat.le_refl _)
    rw [e5] at c
    exact q _ H' (e1.trans c.2.1) (c.retN (e.trans e1))
/-- [e for a, b in t], t a tuple of pairs -/
theorem ep_lcT2N {bs : List β} {s1 s2 res : β → PD} {j1 j2 : Nat} {vs : List Nat} (h : EvP tl σ H (pT K (bs.map fun b => pT K [s1 b, s2 b]))) (hz : bs.length ≤ 10000) (hw : ∀ x y, wipe (((wipe σ vs).set j1 (some x)).set j2 (some y)) vs = wipe σ vs)
    (he : ∀ b ∈ bs, ∀ x y H1, Ex H H1 → (s1 b).p x H1 → (s2 b).p y H1 → EvP te (((wipe σ vs).set j1 (some x)).set j2 (some y)) H1 (res b)) (hS : ∀ b ∈ bs, (res b).St) :
    EvP (tLc (iTup K tl) (gTup K 2 (gCons (gName j1) (gCons (gName j2) gNil))) tYes te vs) σ H (pLN H (bs.map res)) := fun H0 e Q q => h H0 e _ fun v H1 e1 pv => by
  obtain ⟨a, xs, rfl, hx, hA⟩ := pv
  have hl : xs.length = bs.length := by rw [Alls.len hA, List.length_map]
  have ef : ∀ l : List β, l.filter (fun _ => true) = l := fun l => List.filter_eq_self.mpr fun _ _ => rfl
  refine ⟨a, rfl, ⟨xs, hx⟩, fun D hD => lc_tup (xs := xs) (fun i H' => Cp H1 D (((bs.take i).filter fun _ => true).map res) H') ⟨hD, Ex.new hD, [], upd_same, by rw [List.take_zero]; rfl⟩ (fun i H' _ c => ex_t c.2.1 hx) (fun i x H' hi c => ?_) fun H' c => ?_⟩
  · obtain ⟨P, hP, px⟩ := Alls.getv hA hi
    rw [List.getElem?_map] at hP
    cases eb : bs[i]? with
    | none => rw [eb] at hP; cases hP
    | some b =>
      rw [eb] at hP
      cases hP
      have hb := List.mem_of_getElem? eb
      have ex : Ex H H' := (e.trans e1).trans c.2.1
      obtain ⟨c1, ys, rfl, hy, y1, r1, rfl, p1, y2, r2, rfl, p2, e3⟩ := PD.up _ c.2.1 px
      cases e3
      refine ⟨c1, _, rfl, hy, rfl, y1, _, rfl, y2, _, rfl, rfl, hw _ _, ?_⟩
      rw [take_map_filter eb]
      exact cp_turn c (len_tf hz) et_yes (fun _ => he b hb y1 y2 H' ex p1 p2) (fun q => hS b hb) (mem_tf fun b hb _ => hS b hb)
  · rw [hl, List.take_length, ef] at c
    exact q _ H' (e1.trans c.2.1) (c.retN (e.trans e1))
theorem ep_lcT2 {bs : List β} {s1 s2 res : β → PD} {j1 j2 : Nat} {vs : List Nat} (h : EvP tl σ H (pT K (bs.map fun b => pT K [s1 b, s2 b]))) (hz : bs.length ≤ 10000) (hw : ∀ x y, wipe (((wipe σ vs).set j1 (some x)).set j2 (some y)) vs = wipe σ vs)
    (he : ∀ b ∈ bs, ∀ x y H1, Ex H H1 → (s1 b).p x H1 → (s2 b).p y H1 → EvP te (((wipe σ vs).set j1 (some x)).set j2 (some y)) H1 (res b)) (hS : ∀ b ∈ bs, (res b).St) :
    EvP (tLc (iTup K tl) (gTup K 2 (gCons (gName j1) (gCons (gName j2) gNil))) tYes te vs) σ H (pL K (bs.map res)) := (ep_lcT2N (K := K) h hz hw he hS).imp fun _ _ _ p => pLN_pL p
theorem ep_lcTa {bs : List β} {src res : β → PD} {j : Nat} {vs : List Nat} (h : EvP tl σ H (pT K (bs.map src))) (hz : bs.length ≤ 10000) (hw : ∀ x, wipe ((wipe σ vs).set j (some x)) vs = wipe σ vs)
    (he : ∀ b ∈ bs, ∀ x H1, Ex H H1 → (src b).p x H1 → EvP te ((wipe σ vs).set j (some x)) H1 (res b)) (hS : ∀ b ∈ bs, (res b).St) :
    EvP (tLc (iTup K tl) (gName j) tYes te vs) σ H (pL K (bs.map res)) := by
  have := ep_lcT (p := fun _ => true) h hz hw (fun b hb x H1 _ _ => et_yes) (fun b hb _ => he b hb) (fun b hb _ => hS b hb)
  rwa [List.filter_eq_self.mpr fun _ _ => rfl] at this
theorem ep_lcLa {bs : List β} {src res : β → PD} {j : Nat} {vs : List Nat} (h : EvP tl σ H (pL K (bs.map src))) (hz : bs.length ≤ 10000) (hw : ∀ x, wipe ((wipe σ vs).set j (some x)) vs = wipe σ vs)
    (he : ∀ b ∈ bs, ∀ x H1, Ex H H1 → (src b).p x H1 → EvP te ((wipe σ vs).set j (some x)) H1 (res b)) (hS : ∀ b ∈ bs, (res b).St) :
    EvP (tLc (iList K tl) (gName j) tYes te vs) σ H (pL K (bs.map res)) := by
  have := ep_lcL (p := fun _ => true) h hz hw (fun b hb x H1 _ _ => et_yes) (fun b hb _ => he b hb) (fun b hb _ => hS b hb)
  rwa [List.filter_eq_self.mpr fun _ _ => rfl] at this
theorem ep_lcLN {bs : List β} {src res : β → PD} {j : Nat} {vs : List Nat} (h : EvP tl σ H (pL K (bs.map src))) (hz : bs.length ≤ 10000) (hw : ∀ x, wipe ((wipe σ vs).set j (some x)) vs = wipe σ vs)
    (he : ∀ b ∈ bs, ∀ x H1, Ex H H1 → (src b).p x H1 → EvP te ((wipe σ vs).set j (some x)) H1 (res b)) (hS : ∀ b ∈ bs, (res b).St) :
    EvP (tLc (iList K tl) (gName j) tYes te vs) σ H (pLN H (bs.map res)) := by
  have := ep_lcLFN (p := fun _ => true) h hz hw (fun b hb x H1 _ _ => et_yes) (fun b hb _ => he b hb) (fun b hb _ => hS b hb)
  rwa [List.filter_eq_self.mpr fun _ _ => rfl] at this
theorem ep_lcRa {n : Nat} {res : Nat → PD} {j : Nat} {vs : List Nat} {ta : TA} (h : EvPA ta σ H [pI (n : Int)]) (hz : n ≤ 10000) (hw : ∀ x, wipe ((wipe σ vs).set j (some x)) vs = wipe σ vs)
    (he : ∀ i, i < n → ∀ H1, Ex H H1 → EvP te ((wipe σ vs).set j (some (.int (i : Int)))) H1 (res i)) (hS : ∀ i, i < n → (res i).St) :
    EvP (tLc (iRng1 ta) (gName j) tYes te vs) σ H (pL K ((List.range n).map res)) := by
  have := ep_lcR (K := K) (p := fun _ => true) h hz hw (fun i hi H1 _ => et_yes) (fun i hi _ => he i hi) (fun i hi _ => hS i hi)
  rwa [List.filter_eq_self.mpr fun _ _ => rfl] at this
theorem ep_lcRaN {n : Nat} {res : Nat → PD} {j : Nat} {vs : List Nat} {ta : TA} (h : EvPA ta σ H [pI (n : Int)]) (hz : n ≤ 10000) (hw : ∀ x, wipe ((wipe σ vs).set j (some x)) vs = wipe σ vs)
    (he : ∀ i, i < n → ∀ H1, Ex H H1 → EvP te ((wipe σ vs).set j (some (.int (i : Int)))) H1 (res i)) (hS : ∀ i, i < n → (res i).St) :
    EvP (tLc (iRng1 ta) (gName j) tYes te vs) σ H (pLN H ((List.range n).map res)) := by
  have := ep_lcRFN (p := fun _ => true) h hz hw (fun i hi H1 _ => et_yes) (fun i hi _ => he i hi) (fun i hi _ => hS i hi)
  rwa [List.filter_eq_self.mpr fun _ _ => rfl] at this
/-- all(l), any(l) of a list of truth values -/
theorem alls_bools : ∀ {bs : List Bool} {vs : List V} {H : Hp}, Alls (bs.map pB) vs H → vs = bs.map V.bl
  | [], _, _, h => h
  | b :: bs, _, _, ⟨v, r, e, p, t⟩ => by
    cases p
    rw [e, alls_bools t]
    rfl
theorem cp_all {bs : List Bool} : CP (rAll K) [pL K (bs.map pB)] H (pB (bs.all id)) := fun vs H1 _ ps Q q => by
  obtain ⟨v, r, rfl, p, e⟩ := ps
  cases e
  obtain ⟨a, xs, rfl, h1, h2⟩ := p
  obtain rfl := alls_bools h2
  exact ⟨a, bs, rfl, h1, q _ H1 (Ex.refl H1) rfl⟩
theorem cp_any {bs : List Bool} : CP (rAny K) [pL K (bs.map pB)] H (pB (bs.any id)) := fun vs H1 _ ps Q q => by
  obtain ⟨v, r, rfl, p, e⟩ := ps
  cases e
  obtain ⟨a, xs, rfl, h1, h2⟩ := p
  obtain rfl := alls_bools h2
  exact ⟨a, bs, rfl, h1, q _ H1 (Ex.refl H1) rfl⟩
/-- tuple(l) -/
theorem cp_tupleL {Ps : List PD} : CP (fun xs H Q => ∃ p ys, xs = [.ref p] ∧ ((SqL K H p ys ∧ ∀ l, H l = none → Q (.ref l) (upd H l (.tup ys))) ∨ (SqT K H p ys ∧ Q (.ref p) H))) [pL K Ps] H (pT K Ps) := fun vs H1 _ ps Q q => by
  obtain ⟨v, r, rfl, p, e⟩ := ps
  cases e
  obtain ⟨a, xs, rfl, h1, h2⟩ := p
  exact ⟨a, xs, rfl, .inl ⟨h1, fun l hl => q _ _ (Ex.new hl) ⟨l, xs, rfl, SqT.of upd_same, Alls.up (Ex.new hl) h2⟩⟩⟩
/-- [] and [a, b, ..] -/
theorem ep_lst {ta : TA} {Ps : List PD} (h : EvPA ta σ H Ps) (hl : Ps.length ≤ 1000) : EvP (tLst ta) σ H (pL K Ps) := fun H1 e _ q =>
  h H1 e _ fun vs H2 e2 ps => ⟨sz_of (by rw [Alls.len ps]; omega), fun p hp => q _ _ (e2.trans (Ex.new hp)) ⟨p, vs, rfl, SqL.of upd_same, Alls.up (Ex.new hp) ps⟩⟩
/-- items of tuples and lists of such values -/
theorem rp_ixTP {Ps : List PD} {i : Nat} (h : Ps[i]? = some P) : RP (rIxT K) (pT K Ps) (pI (i : Int)) H P := fun x y H1 _ p p' Q q => by
  obtain ⟨a, xs, rfl, h1, h2⟩ := p
  obtain rfl : y = .int i := p'
  obtain ⟨z, hz, dz⟩ := Alls.get h2 h
  exact ⟨a, xs, i, z, rfl, rfl, h1, atI_nat hz, q z H1 (Ex.refl H1) dz⟩
theorem rp_ixLP {Ps : List PD} {i : Nat} (h : Ps[i]? = some P) : RP (rIxL K) (pL K Ps) (pI (i : Int)) H P := fun x y H1 _ p p' Q q => by
  obtain ⟨a, xs, rfl, h1, h2⟩ := p
  obtain rfl : y = .int i := p'
  obtain ⟨z, hz, dz⟩ := Alls.get h2 h
  exact ⟨a, xs, i, z, rfl, rfl, h1, atI_nat hz, q z H1 (Ex.refl H1) dz⟩
end
end K43
set_option Elab.async false
set_option linter.all false
set_option maxRecDepth 100000
set_option maxHeartbeats 4000000
/-! k43, part F3: stalls and webs. -/
namespace K43
open PySem PySem.Spec L2 Evl C8

/-! ### stalls -/
structure Stl where
  u : Nat
  v : Nat
  a : Rat
  b : Rat
  r : Rat
def Stl.other (s : Stl) (w : Nat) : Nat := if s.u = w then s.v else s.u
def Stl.held (s : Stl) (w : Nat) : Rat := if s.u = w then s.a else s.b
def stlD (s : Stl) : PyData := .tuple [.int s.u, .int s.v, ratD s.a, ratD s.b, ratD s.r]
structure Stl.Ok (n : Nat) (s : Stl) : Prop where
  hu : s.u < n
  hv : s.v < n
  ne : s.u ≠ s.v
  a0 : 0 < s.a
  b0 : 0 < s.b
  r0 : 0 < s.r
  eq : s.a * s.b = s.r * s.r
  sa : Sz 100 s.a
  sb : Sz 100 s.b
  sr : Sz 10 s.r
theorem Stl.Ok.held {n : Nat} {s : Stl} (h : s.Ok n) (w : Nat) : Sz 100 (s.held w) := by
  unfold Stl.held
  split
  · exact h.sa
  · exact h.sb
theorem Stl.Ok.held0 {n : Nat} {s : Stl} (h : s.Ok n) (w : Nat) : 0 < s.held w := by
  unfold Stl.held
  split
  · exact h.a0
  · exact h.b0
theorem noList_rat (q : Rat) : noList (ratD q) = true := by simp [ratD, noList, noListAll]
theorem noList_stl (s : Stl) : noList (stlD s) = true := by simp [stlD, noList, noListAll, noList_rat]

/-! ### what does not lean on an instance -/
theorem sqT_ins {K : PySem.W.Frag} {H : Hp} {D a C dx : Addr} {fs : List (Str × V)} {o : HO} {xs : List V} (h : H D = some (.ins C dx fs)) (q : SqT K H a xs) : SqT K (upd H D o) a xs := by
  rcases q with (q | ⟨ob, q⟩) | q
  · exact .inl (.inl (by rw [upd_ne (ne_of q h (by intro z; cases z))]; exact q))
  · exact .inl (.inr ⟨ob, by rw [upd_ne (ne_of q h (by intro z; cases z))]; exact q⟩)
  · exact .inr q
theorem sqL_ins {K : PySem.W.Frag} {H : Hp} {D a C dx : Addr} {fs : List (Str × V)} {o : HO} {xs : List V} (h : H D = some (.ins C dx fs)) (q : SqL K H a xs) : SqL K (upd H D o) a xs := by
  rcases q with (q | ⟨ob, q⟩) | q
  · exact .inl (.inl (by rw [upd_ne (ne_of q h (by intro z; cases z))]; exact q))
  · exact .inl (.inr ⟨ob, by rw [upd_ne (ne_of q h (by intro z; cases z))]; exact q⟩)
  · exact .inr q
mutual
theorem Dp.ins {K : PySem.W.Frag} {H : Hp} {D C dx : Addr} {fs : List (Str × V)} {o : HO} (h : H D = some (.ins C dx fs)) : ∀ {v : V} {d : PyData}, Dp K H v d → Dp K (upd H D o) v d
  | _, _, .non => .non
  | _, _, .bl b => .bl b
  | _, _, .int i => .int i
  | _, _, .str x => .str x
  | _, _, .lst q a => .lst (sqL_ins h q) (DpAll.ins h a)
  | _, _, .tup q a => .tup (sqT_ins h q) (DpAll.ins h a)
theorem DpAll.ins {K : PySem.W.Frag} {H : Hp} {D C dx : Addr} {fs : List (Str × V)} {o : HO} (h : H D = some (.ins C dx fs)) : ∀ {vs : List V} {ds : List PyData}, DpAll K H vs ds → DpAll K (upd H D o) vs ds
  | _, _, .nil => .nil
  | _, _, .cons a t => .cons (Dp.ins h a) (DpAll.ins h t)
end

section
variable {P : Program} {w : World} {K : PySem.W.Frag} {mg : Str → Option Value} {base : Heap} {cE cW : Addr} {σ : L2.St} {H : Hp} {te tx : TE}
theorem pTD {ds : List PyData} (h : EvP te σ H (pD K (.tuple ds))) : EvP te σ H (pT K (ds.map (pD K))) := h.imp fun _ _ _ p => pD_pTt p
theorem ep_D {ds : List PyData} (h : EvP te σ H (pT K (ds.map (pD K)))) : EvP te σ H (pD K (.tuple ds)) := h.imp fun _ _ _ p => pTt_pD p
theorem ep_LD {ds : List PyData} (h : EvP te σ H (pL K (ds.map (pD K)))) : EvP te σ H (pD K (.list ds)) := h.imp fun _ _ _ p => pL_pD p

/-! ### is_stall -/
def spIsStall (K : PySem.W.Frag) : Sp := spF (fun (a : Stl × Nat) => [pD K (stlD a.1), pI a.2]) (fun _ => pB true) (fun a => a.1.Ok a.2)
theorem ok18 (T : Txt K mg cE cW) : Cal P w K mg base 5 "is_stall" (spIsStall K) [] := by
  have sc : FnScope ["thing", "wares", "ware", "amount"] ["thing", "wares"] (defScope (top 18)) := ⟨rfl, rfl, rfl, by decide +kernel, rfl, by decide +kernel, by decide +kernel⟩
  refine T.d18.cal sc (spF_len fun _ => rfl) fun cdv f A outer s H vs Q E hr h => ?_
  obtain ⟨⟨st, n⟩, hok, ⟨v, rs, rfl, p, v2, rs2, rfl, p2, e⟩, k⟩ := h
  cases e
  cases p2
  replace hok : st.Ok n := hok
  replace p : Dp K H v (stlD st) := p
  refine ⟨_, pss_cons (ps_if (PW.pt (pw_or (pt_not (pt_val (pe_callB call_isi (by rfl) T.b_isi (by decide +kernel) (pa_cons (pv 0) (pa_cons (pe_bltn (v := .ty "tuple") (by rfl) T.b_tuple (by decide +kernel) rfl) pa_nil)))))
      (pw_or (pt_cmpR op_ne (pe_callB call_len_seq (by rfl) T.b_len (by decide +kernel) (pa_cons (pv 0) pa_nil)) pe_int (nomark _))
      (pw_or1 (pt_not (pt_val (pe_callB (cr_all rfl) (by rfl) T.b_all (by decide +kernel) (pa_cons (pe_lc (own := [("ware", 2)]) (g := gName 2) (by rfl) sc.nd (pi_tup (pe_slice sl_tupA (pv 0) po_none (po_some pe_int))) (blkOk_by (N := ["thing", "wares", "ware", "amount"]) (sc := defScope (top 18)) (by decide +kernel)) (fun _ _ _ _ _ => pg_name (i := 2) sc.nd rfl (.inl rfl)) (fun _ _ _ _ _ => pts_nil)
        (fun _ _ _ _ _ => pe_c (ok17 T) hr (by decide) rfl (pa_cons (pv 2) (pa_cons (pv 1) pa_nil)))) pa_nil)))))))) (pss_one (ps_ret pe_bl)) pss_nil)
    (pss_cons (ps_if (PW.pt (pw_or (pt_cmpR op_eq (pe_ix ix_tup (pv 0) pe_int (fun _ _ => rfl)) (pe_ix ix_tup (pv 0) pe_int (fun _ _ => rfl)) (nomark _))
      (pw_or1 (pt_not (pt_val (pe_callB (cr_all rfl) (by rfl) T.b_all (by decide +kernel) (pa_cons (pe_lc (own := [("amount", 3)]) (g := gName 3) (by rfl) sc.nd (pi_tup (pe_slice sl_tupA (pv 0) (po_some pe_int) po_none)) (blkOk_by (N := ["thing", "wares", "ware", "amount"]) (sc := defScope (top 18)) (by decide +kernel)) (fun _ _ _ _ _ => pg_name (i := 3) sc.nd rfl (.inl rfl)) (fun _ _ _ _ _ => pts_nil)
        (fun _ _ _ _ _ => pe_c (ok13 T) hr (by decide) rfl (pa_cons (pv 3) pa_nil))) pa_nil))))))) (pss_one (ps_ret pe_bl)) pss_nil)
    (pss_one (ps_ret (pe_cmpR (op_eqE T hr (by decide)) (pe_op (op_mulE T hr (by decide)) (pe_c (ok10 T) hr (by decide) rfl (pa_cons (pe_ix ix_tup (pv 0) pe_int (fun _ _ => rfl)) pa_nil)) (pe_c (ok10 T) hr (by decide) rfl (pa_cons (pe_ix ix_tup (pv 0) pe_int (fun _ _ => rfl)) pa_nil)))
      (pe_mt0 (okSquare T) hr (by decide) (pe_c (ok10 T) hr (by decide) rfl (pa_cons (pe_ix ix_tup (pv 0) pe_int (fun _ _ => rfl)) pa_nil))) (nomark _))))), ?_⟩
  refine p_pass (et_is (et_or (et_not (pt_B (ep_cb (ea_cons (ep_var rfl (show (pD K (stlD st)).p v H from p)) (ea_cons ep_c ea_nil)) cp_isiT))) fun _ => et_or (pt_test (ep_op (ep_cb (ea_cons (ep_var rfl (show (pD K (stlD st)).p v H from p)) ea_nil) cp_lenT) ep_i rp_neI))
    fun _ => et_not (pt_B (ep_cb (Ps := [pL K (([st.u, st.v].map fun x => decide (x < n)).map pB)]) (ea_cons ?g1 ea_nil) cp_all))) ?b1) fun H1 e1 => ?_
  case g1 =>
    rw [List.map_map]
    refine ep_lcTa (bs := [st.u, st.v]) (src := fun (x : Nat) => pD K (.int (x : Int))) (pTD (ds := [st.u, st.v].map fun (x : Nat) => PyData.int (x : Int)) (ep_slTo (n := 2) (ep_var rfl (show (pD K (stlD st)).p v H from p)) ep_i)) (by show 2 ≤ 10000; decide) (fun _ => rfl) (fun b hb x H1 _ px => ?_) (fun b hb => st_B)
    exact ep_call (b, n) trivial (ea_cons (ep_var rfl (pD_int px)) (ea_cons (ep_vi rfl) ea_nil))
  case b1 =>
    have h1 := hok.hu
    have h2 := hok.hv
    simp [h1, h2]
  have p' : (pD K (stlD st)).p v H1 := Dp.up e1 p
  refine p_pass (et_is (et_or (pt_test (ep_op (ep_ixI (i := 0) (ep_var rfl p') ep_i rfl) (ep_ixI (i := 1) (ep_var rfl p') ep_i rfl) rp_eqI)) fun _ => et_not (pt_B (ep_cb (Ps := [pL K (([st.a, st.b, st.r].map fun _ => true).map pB)]) (ea_cons ?g2 ea_nil) cp_all))) ?b2) fun H2 e2 => ?_
  case g2 =>
    rw [List.map_map]
    refine ep_lcTa (bs := [st.a, st.b, st.r]) (src := fun x => pD K (ratD x)) (pTD (ds := [st.a, st.b, st.r].map ratD) (ep_slFrom (n := 2) (ep_var rfl p') ep_i)) (by show 3 ≤ 10000; decide) (fun _ => rfl) (fun b hb x H1 _ px => ?_) (fun b hb => st_B)
    refine ep_call b ?_ (ea_cons (ep_var rfl px) ea_nil)
    have h1 := hok.a0
    have h2 := hok.b0
    have h3 := hok.r0
    simp only [List.mem_cons, List.not_mem_nil, or_false] at hb
    rcases hb with rfl | rfl | rfl <;> assumption
  case b2 =>
    have h1 := hok.ne
    have h2 : ¬ ((st.u : Nat) : Int) = (st.v : Nat) := by omega
    simp [h2]
  have p'' : (pD K (stlD st)).p v H2 := Dp.up e2 p'
  refine p_ret (ep_bis (ep_op (ep_op (ep_call st.a (hok.sa.mono (by decide)) (ea_cons (ep_ixD (i := 2) (ep_var rfl p'') ep_i rfl) ea_nil)) (ep_call st.b (hok.sb.mono (by decide)) (ea_cons (ep_ixD (i := 3) (ep_var rfl p'') ep_i rfl) ea_nil)) (rp_mulE (hok.sa.mono (by decide)) (hok.sb.mono (by decide))))
    (ep_square (ep_call st.r (hok.sr.mono (by decide)) (ea_cons (ep_ixD (i := 4) (ep_var rfl p'') ep_i rfl) ea_nil)) (hok.sr.mono (by decide))) rp_eqE) ?_) fun v H3 e3 => k v H3 ((e1.trans e2).trans e3)
  rw [hok.eq]
  simp

/-! ### other_ware, held_of, root_exact -/
def spOther (K : PySem.W.Frag) : Sp := spF (fun (a : Stl × Nat) => [pD K (stlD a.1), pI a.2]) (fun a => pI (a.1.other a.2 : Nat)) (fun _ => True)
theorem ok21 (T : Txt K mg cE cW) : Cal P w K mg base 1 "other_ware" (spOther K) [] := by
  have sc : FnScope ["stall", "ware"] ["stall", "ware"] (defScope (top 21)) := ⟨rfl, rfl, rfl, by decide +kernel, rfl, by decide +kernel, by decide +kernel⟩
  refine T.d21.cal sc (spF_len fun _ => rfl) fun cdv f A outer s H vs Q E hr h => ?_
  obtain ⟨⟨st, n⟩, hok, ⟨v, rs, rfl, p, v2, rs2, rfl, p2, e⟩, k⟩ := h
  cases e
  cases p2
  replace p : (pD K (stlD st)).p v H := p
  refine ⟨_, pss_one (ps_ret (pe_ifExp (pt_cmpR op_eq (pe_ix ix_tup (pv 0) pe_int (fun _ _ => rfl)) (pv 1) (nomark _)) (pe_ix ix_tup (pv 0) pe_int (fun _ _ => rfl)) (pe_ix ix_tup (pv 0) pe_int (fun _ _ => rfl)))), ?_⟩
  refine p_ret (ep_if (pt_test (ep_op (ep_ixI (i := 0) (ep_var rfl p) ep_i rfl) (ep_vi rfl) rp_eqI)) (fun hb => ep_iis (ep_ixI (i := 1) (ep_var rfl p) ep_i rfl) ?_) (fun hb => ep_iis (ep_ixI (i := 0) (ep_var rfl p) ep_i rfl) ?_)) k
  · have : st.u = n := by have := of_decide_eq_true hb; omega
    show (st.v : Int) = (st.other n : Nat)
    unfold Stl.other
    rw [if_pos this]
  · have : ¬ st.u = n := by have := of_decide_eq_false hb; omega
    show (st.u : Int) = (st.other n : Nat)
    unfold Stl.other
    rw [if_neg this]
def spHeld (K : PySem.W.Frag) (C : Addr) : Sp := spF (fun (a : Stl × Nat) => [pD K (stlD a.1), pI a.2]) (fun a => pE C (a.1.held a.2)) (fun a => Sz 100 a.1.a ∧ Sz 100 a.1.b)
theorem ok22 (T : Txt K mg cE cW) : Cal P w K mg base 5 "held_of" (spHeld K cE) [] := by
  have sc : FnScope ["stall", "ware"] ["stall", "ware"] (defScope (top 22)) := ⟨rfl, rfl, rfl, by decide +kernel, rfl, by decide +kernel, by decide +kernel⟩
  refine T.d22.cal sc (spF_len fun _ => rfl) fun cdv f A outer s H vs Q E hr h => ?_
  obtain ⟨⟨st, n⟩, ⟨ha, hb⟩, ⟨v, rs, rfl, p, v2, rs2, rfl, p2, e⟩, k⟩ := h
  cases e
  cases p2
  replace p : (pD K (stlD st)).p v H := p
  refine ⟨_, pss_one (ps_ret (pe_c (ok10 T) hr (by decide) rfl (pa_cons (pe_ifExp (pt_cmpR op_eq (pe_ix ix_tup (pv 0) pe_int (fun _ _ => rfl)) (pv 1) (nomark _)) (pe_ix ix_tup (pv 0) pe_int (fun _ _ => rfl)) (pe_ix ix_tup (pv 0) pe_int (fun _ _ => rfl))) pa_nil))), ?_⟩
  refine p_ret (ep_call (st.held n) ?_ (ea_cons (ep_if (pt_test (ep_op (ep_ixI (i := 0) (ep_var rfl p) ep_i rfl) (ep_vi rfl) rp_eqI)) (fun hb => ep_is (ep_ixD (i := 2) (ep_var rfl p) ep_i rfl) ?_) (fun hb => ep_is (ep_ixD (i := 3) (ep_var rfl p) ep_i rfl) ?_)) ea_nil)) k
  · unfold Stl.held
    split
    · exact ha.mono (by decide)
    · exact hb.mono (by decide)
  · have : st.u = n := by have := of_decide_eq_true hb; omega
    unfold Stl.held
    rw [if_pos this]
  · have : ¬ st.u = n := by have := of_decide_eq_false hb; omega
    unfold Stl.held
    rw [if_neg this]
def spRoot (K : PySem.W.Frag) (C : Addr) : Sp := spF (fun (a : Stl) => [pD K (stlD a)]) (fun a => pE C a.r) (fun a => Sz 10 a.r)
theorem ok23 (T : Txt K mg cE cW) : Cal P w K mg base 5 "root_exact" (spRoot K cE) [] := by
  have sc : FnScope ["stall"] ["stall"] (defScope (top 23)) := ⟨rfl, rfl, rfl, by decide +kernel, rfl, by decide +kernel, by decide +kernel⟩
  refine T.d23.cal sc (spF_len fun _ => rfl) fun cdv f A outer s H vs Q E hr h => ?_
  obtain ⟨st, ha, ⟨v, rs, rfl, p, e⟩, k⟩ := h
  cases e
  replace p : (pD K (stlD st)).p v H := p
  refine ⟨_, pss_one (ps_ret (pe_c (ok10 T) hr (by decide) rfl (pa_cons (pe_ix ix_tup (pv 0) pe_int (fun _ _ => rfl)) pa_nil))), ?_⟩
  exact p_ret (ep_call st.r (ha.mono (by decide)) (ea_cons (ep_ixD (i := 4) (ep_var rfl p) ep_i rfl) ea_nil)) k
/-- (scale * held_of(stall, ware)).over(root_exact(stall)) -/
def spNext (K : PySem.W.Frag) (C : Addr) : Sp := spF (fun (a : Stl × Nat × Rat) => [pD K (stlD a.1), pI a.2.1, pE C a.2.2]) (fun a => pE C (a.2.2 * a.1.held a.2.1 / a.1.r)) (fun a => (∃ n, a.1.Ok n) ∧ Sz 1700 a.2.2)
theorem ok27 (T : Txt K mg cE cW) : Cal P w K mg base 6 "next_scale" (spNext K cE) [] := by
  have sc : FnScope ["stall", "ware", "scale"] ["stall", "ware", "scale"] (defScope (top 27)) := ⟨rfl, rfl, rfl, by decide +kernel, rfl, by decide +kernel, by decide +kernel⟩
  refine T.d27.cal sc (spF_len fun _ => rfl) fun cdv f A outer s H vs Q E hr h => ?_
  obtain ⟨⟨st, n, q⟩, ⟨⟨m, hok⟩, hq⟩, ⟨v, rs, rfl, p, v2, rs2, rfl, p2, v3, rs3, rfl, p3, e⟩, k⟩ := h
  cases e
  cases p2
  replace p : (pD K (stlD st)).p v H := p
  replace hok : st.Ok m := hok
  replace hq : Sz 1700 q := hq
  refine ⟨_, pss_one (ps_ret (pe_mt (okOver T) hr (by decide) (pe_op (op_mulE T hr (by decide)) (pv 2) (pe_c (ok22 T) hr (by decide) rfl (pa_cons (pv 0) (pa_cons (pv 1) pa_nil)))) (pa_cons (pe_c (ok23 T) hr (by decide) rfl (pa_cons (pv 0) pa_nil)) pa_nil))), ?_⟩
  exact p_ret (ep_over (ep_op (ep_var rfl p3) (ep_call (st, n) ⟨hok.sa, hok.sb⟩ (ea_cons (ep_var rfl p) (ea_cons (ep_vi rfl) ea_nil))) (rp_mulE (hq.mono (by decide)) ((hok.held n).mono (by decide)))) (ep_call st hok.sr (ea_cons (ep_var rfl p) ea_nil)) ((sz_mul hq (hok.held n)).mono (by decide)) (hok.sr.mono (by decide)) hok.r0) k
end
end K43
set_option Elab.async false
set_option linter.all false
set_option maxRecDepth 100000
set_option maxHeartbeats 4000000
/-! k43, part S2: loops over standing tuples; tests of lists against the empty one. -/
namespace K43
open PySem PySem.Spec L2 Evl C8
section
variable {K : PySem.W.Frag} {σ : L2.St} {H H0 H' : Hp} {ta tb te tl tx : TE} {t tt : TT} {P P' R : PD} {D : Ends} {tu tw tz : TS} {g : TG}
theorem ev_of {v : V} (h : EvP te σ H (pV v)) : Ev te σ H v := fun H1 e Q q => h H1 e Q fun v' H2 e2 p => by
  obtain rfl : v' = v := p
  exact q H2 e2
theorem p_forT {a : Addr} {xs : List V} (h : EvP tl σ H (pV (.ref a))) (hq : SqT K H0 a xs) (e0 : Ex H0 H) (Pv : Nat → L2.St → Hp → Prop) (h0 : ∀ H1, Ex H H1 → Pv 0 σ H1) (hx : ∀ i σ' H', Pv i σ' H' → Ex H0 H')
    (hs : ∀ i x σ' H', xs[i]? = some x → Pv i σ' H' → g x σ' H' fun σ2 H2 => tu { D with nx := Pv (i + 1), ct := Pv (i + 1), bk := tz D } σ2 H2) (hd : ∀ σ' H', Pv xs.length σ' H' → tz D σ' H') : tSeq (tFor (iTup K tl) g tu) tz D σ H :=
  q_forT (ev_of h) (ex_t e0 hq) Pv h0 (fun i σ' H' _ p => ex_t (hx i σ' H' p) hq) hs hd
theorem p_forL {a : Addr} {xs : List V} (h : EvP tl σ H (pV (.ref a))) (hq : SqL K H0 a xs) (e0 : Ex H0 H) (Pv : Nat → L2.St → Hp → Prop) (h0 : ∀ H1, Ex H H1 → Pv 0 σ H1) (hx : ∀ i σ' H', Pv i σ' H' → Ex H0 H')
    (hs : ∀ i x σ' H', xs[i]? = some x → Pv i σ' H' → g x σ' H' fun σ2 H2 => tu { D with nx := Pv (i + 1), ct := Pv (i + 1), bk := tz D } σ2 H2) (hd : ∀ σ' H', Pv xs.length σ' H' → tz D σ' H') : tSeq (tFor (iList K tl) g tu) tz D σ H :=
  q_forL (ev_of h) (ex_l e0 hq) Pv h0 (fun i σ' H' _ p => ex_l (hx i σ' H' p) hq) hs hd
/-- for i, x in enumerate(t) -/
theorem p_enumT {a : Addr} {xs : List V} {j1 j2 : Nat} {ta' : TA} (h : EvPA ta' σ H [pV (.ref a)]) (hq : SqT K H0 a xs) (e0 : Ex H0 H) (Pv : Nat → L2.St → Hp → Prop) (h0 : ∀ H1, Ex H H1 → Pv 0 σ H1) (hx : ∀ i σ' H', Pv i σ' H' → Ex H0 H')
    (hs : ∀ (i : Nat) x σ' H' H'', xs[i]? = some x → Pv i σ' H' → Ex H' H'' → tu { D with nx := Pv (i + 1), ct := Pv (i + 1), bk := tz D } ((σ'.set j1 (some (.int (i : Int)))).set j2 (some x)) H'') (hd : ∀ σ' H', Pv xs.length σ' H' → tz D σ' H') :
    tSeq (tFor (iEnumT K ta') (gTup K 2 (gCons (gName j1) (gCons (gName j2) gNil))) tu) tz D σ H := by
  refine h H (Ex.refl H) _ fun vs H1 e1 ps => ?_
  obtain ⟨v, r, rfl, pv, er⟩ := ps
  cases er
  cases pv
  refine ⟨a, xs, rfl, ex_t (e0.trans e1) hq, for_it (D := { D with nx := tz D }) walk_enumT Pv (h0 H1 e1) (fun i σ' H' _ p => ex_t (hx i σ' H' p) hq) (fun i x σ' H2 H3 hi p y => ?_) hd⟩
  obtain ⟨T, x1, y1, rfl, hT, rfl, e1, e2⟩ := y
  cases e1
  refine ⟨T, _, rfl, SqT.of upd_same, rfl, _, _, rfl, _, _, rfl, rfl, hs i y1 σ' H2 _ e2 p (Ex.new hT)⟩
theorem p_enumT1 {a : Addr} {xs : List V} {j1 j2 : Nat} {ta' : TA} (h : EvPA ta' σ H [pV (.ref a)]) (hq : SqT K H0 a xs) (e0 : Ex H0 H) (Pv : Nat → L2.St → Hp → Prop) (h0 : ∀ H1, Ex H H1 → Pv 0 σ H1) (hx : ∀ i σ' H', Pv i σ' H' → Ex H0 H')
    (hs : ∀ (i : Nat) x σ' H' H'', xs[i]? = some x → Pv i σ' H' → Ex H' H'' → tu { D with nx := Pv (i + 1), ct := Pv (i + 1), bk := D.nx } ((σ'.set j1 (some (.int (i : Int)))).set j2 (some x)) H'') (hd : ∀ σ' H', Pv xs.length σ' H' → D.nx σ' H') :
    tFor (iEnumT K ta') (gTup K 2 (gCons (gName j1) (gCons (gName j2) gNil))) tu D σ H := by
  refine h H (Ex.refl H) _ fun vs H1 e1 ps => ?_
  obtain ⟨v, r, rfl, pv, er⟩ := ps
  cases er
  cases pv
  refine ⟨a, xs, rfl, ex_t (e0.trans e1) hq, for_it (D := D) walk_enumT Pv (h0 H1 e1) (fun i σ' H' _ p => ex_t (hx i σ' H' p) hq) (fun i x σ' H2 H3 hi p y => ?_) hd⟩
  obtain ⟨T, x1, y1, rfl, hT, rfl, e1, e2⟩ := y
  cases e1
  refine ⟨T, _, rfl, SqT.of upd_same, rfl, _, _, rfl, _, _, rfl, rfl, hs i y1 σ' H2 _ e2 p (Ex.new hT)⟩
/-- for i, x in enumerate(l) -/
theorem p_enumL {a : Addr} {xs : List V} {j1 j2 : Nat} {ta' : TA} (h : EvPA ta' σ H [pV (.ref a)]) (hq : SqL K H0 a xs) (e0 : Ex H0 H) (Pv : Nat → L2.St → Hp → Prop) (h0 : ∀ H1, Ex H H1 → Pv 0 σ H1) (hx : ∀ i σ' H', Pv i σ' H' → Ex H0 H')
    (hs : ∀ (i : Nat) x σ' H' H'', xs[i]? = some x → Pv i σ' H' → Ex H' H'' → tu { D with nx := Pv (i + 1), ct := Pv (i + 1), bk := tz D } ((σ'.set j1 (some (.int (i : Int)))).set j2 (some x)) H'') (hd : ∀ σ' H', Pv xs.length σ' H' → tz D σ' H') :
    tSeq (tFor (iEnum K ta') (gTup K 2 (gCons (gName j1) (gCons (gName j2) gNil))) tu) tz D σ H := by
  refine h H (Ex.refl H) _ fun vs H1 e1 ps => ?_
  obtain ⟨v, r, rfl, pv, er⟩ := ps
  cases er
  cases pv
  refine ⟨a, xs, rfl, ex_l (e0.trans e1) hq, for_it (D := { D with nx := tz D }) walk_enum Pv (h0 H1 e1) (fun i σ' H' _ p => ex_l (hx i σ' H' p) hq) (fun i x σ' H2 H3 hi p y => ?_) hd⟩
  obtain ⟨T, x1, y1, rfl, hT, rfl, e1, e2⟩ := y
  cases e1
  refine ⟨T, _, rfl, SqT.of upd_same, rfl, _, _, rfl, _, _, rfl, rfl, hs i y1 σ' H2 _ e2 p (Ex.new hT)⟩
/-- for i in range(n) -/
theorem p_forR {n : Nat} {j : Nat} {ta' : TA} (h : EvPA ta' σ H [pI (n : Int)]) (hn : n ≤ 10000) (Pv : Nat → L2.St → Hp → Prop) (h0 : ∀ H1, Ex H H1 → Pv 0 σ H1)
    (hs : ∀ (i : Nat) σ' H', i < n → Pv i σ' H' → tu { D with nx := Pv (i + 1), ct := Pv (i + 1), bk := tz D } (σ'.set j (some (.int (i : Int)))) H') (hd : ∀ σ' H', Pv n σ' H' → tz D σ' H') : tSeq (tFor (iRng1 ta') (gName j) tu) tz D σ H :=
  q_forR1 (n := n) (fun H1 e Q q => h H1 e _ fun vs H2 e2 ps => by
    obtain ⟨v, r, rfl, pv, er⟩ := ps
    cases er
    cases pv
    exact q H2 e2) (by omega) Pv h0 (fun i σ' H' hi p => hs i σ' H' (by omega) p) (fun σ' H' p => hd σ' H' (by
      have : (n : Int).toNat = n := by omega
      rw [this] at p
      exact p))
theorem canLay_ints : ∀ ns : List Int, PyData.canLayAll0 (ns.map .int) = true
  | [] => by simp [PyData.canLayAll0]
  | n :: ns => by
    rw [List.map_cons, PyData.canLayAll0, canLay_ints ns]
    simp [PyData.canLay0]
theorem depth_ints' (ns : List Int) : PyData.depthAll (ns.map .int) = 0 := PySem.W.depth_ints ns
theorem shaped_ints (ns : List Int) : SeqAt.shaped (.list (ns.map .int)) = true := by
  unfold SeqAt.shaped
  rw [PyData.canLay0, canLay_ints, PyData.depth, depth_ints']
  decide
theorem shaped_nil : SeqAt.shaped (.list []) = true := shaped_ints []
theorem eqv_nil : ∀ ds : List PyData, PyData.eqv (.list ds) (.list []) = ds.isEmpty
  | [] => by simp [PyData.eqv, PyData.eqvAll]
  | _ :: _ => by simp [PyData.eqv, PyData.eqvAll]
theorem eqv_nilT : ∀ ds : List PyData, PyData.eqv (.tuple ds) (.tuple []) = ds.isEmpty
  | [] => by simp [PyData.eqv, PyData.eqvAll]
  | _ :: _ => by simp [PyData.eqv, PyData.eqvAll]
theorem rp_neD {d e : PyData} (h1 : SeqAt.shaped d = true) (h2 : SeqAt.shaped e = true) : RP (rNeD K) (pD K d) (pD K e) H (pB (!PyData.eqv d e)) := fun x y H1 _ p p' Q q => ⟨d, e, p, p', h1, h2, q _ H1 (Ex.refl H1) rfl⟩
theorem rp_eqD {d e : PyData} (h1 : SeqAt.shaped d = true) (h2 : SeqAt.shaped e = true) : RP (rEqD K) (pD K d) (pD K e) H (pB (PyData.eqv d e)) := fun x y H1 _ p p' Q q => ⟨d, e, p, p', h1, h2, q _ H1 (Ex.refl H1) rfl⟩
theorem ep_nilL : EvP (tLst tNil) σ H (pD K (.list [])) := ep_LD (ds := []) (ep_lst ea_nil (by simp))
theorem ep_nilT : EvP (tTup tNil) σ H (pD K (.tuple [])) := ep_D (ds := []) (ep_tup ea_nil (by simp))
end
end K43
set_option Elab.async false
set_option linter.all false
set_option maxRecDepth 100000
set_option maxHeartbeats 4000000
/-! k43, part F4: Web(wares, stalls), roots_exact, piece_of, pieces. -/
namespace K43
open PySem PySem.Spec L2 Evl C8

/-! ### webs -/
theorem kws : ¬ (("wares" : Str) = "stalls") := by decide +kernel
def fldsW (n : Nat) (t : Addr) : List (Str × V) := putF "stalls" (.ref t) (putF "wares" (.int (n : Nat)) [])
theorem fldsW_wares (n : Nat) (t : Addr) : (fldsW n t).lookup ("wares" : Str) = some (.int (n : Nat)) := by
  unfold fldsW
  rw [lookup_putF, if_neg kws, lookup_putF, if_pos rfl]
theorem fldsW_stalls (n : Nat) (t : Addr) : (fldsW n t).lookup ("stalls" : Str) = some (.ref t) := by
  unfold fldsW
  rw [lookup_putF, if_pos rfl]
structure WOk (n : Nat) (ss : List Stl) : Prop where
  n1 : 1 ≤ n
  n8 : n ≤ 8
  len : ss.length ≤ 16
  ok : ∀ s ∈ ss, s.Ok n
/-- at v the web of n wares with these stalls, its tuple of stalls at t -/
structure WebAt (K : PySem.W.Frag) (C : Addr) (n : Nat) (ss : List Stl) (v : V) (t : Addr) (xs : List V) (H : Hp) : Prop where
  ob : ∃ p dx, v = .ref p ∧ H p = some (.ins C dx (fldsW n t))
  tp : SqT K H t xs
  da : DpAll K H xs (ss.map stlD)
theorem WebAt.up {K : PySem.W.Frag} {C : Addr} {n : Nat} {ss : List Stl} {v : V} {t : Addr} {xs : List V} {H H' : Hp} (e : Ex H H') (h : WebAt K C n ss v t xs H) : WebAt K C n ss v t xs H' := by
  obtain ⟨⟨p, dx, h1, h2⟩, h3, h4⟩ := h
  exact ⟨⟨p, dx, h1, e _ _ h2⟩, ex_t e h3, DpAll.up e h4⟩
theorem WebAt.len {K : PySem.W.Frag} {C : Addr} {n : Nat} {ss : List Stl} {v : V} {t : Addr} {xs : List V} {H : Hp} (h : WebAt K C n ss v t xs H) : xs.length = ss.length := by
  rw [DpAll.len h.da, List.length_map]
def pW (K : PySem.W.Frag) (C : Addr) (n : Nat) (ss : List Stl) : PD := ⟨fun v H => ∃ t xs, WebAt K C n ss v t xs H, fun e ⟨t, xs, h⟩ => ⟨t, xs, h.up e⟩⟩

section
variable {P : Program} {w : World} {K : PySem.W.Frag} {mg : Str → Option Value} {base : Heap} {cE cW : Addr} {σ : L2.St} {H : Hp} {te tx : TE}
theorem WebAt.stl {n : Nat} {ss : List Stl} {v : V} {t : Addr} {xs : List V} {i : Nat} {x : V} (h : WebAt K cW n ss v t xs H) (e : xs[i]? = some x) : ∃ s, ss[i]? = some s ∧ (pD K (stlD s)).p x H := by
  obtain ⟨d, h1, h2⟩ := DpAll.get h.da e
  rw [List.getElem?_map] at h1
  cases es : ss[i]? with
  | none => rw [es] at h1; cases h1
  | some s =>
    rw [es] at h1
    cases h1
    exact ⟨s, rfl, h2⟩
theorem ep_wares (T : Txt K mg cE cW) {n : Nat} {ss : List Stl} {i : Nat} {v : V} {t : Addr} {xs : List V} (hv : σ[i]? = some (some v)) (h : WebAt K cW n ss v t xs H) : EvP (tFld K (tVar i) "wares") σ H (pI (n : Nat)) := fun H1 e Q q => by
  obtain ⟨p, dx, rfl, h2⟩ := h.ob
  exact ⟨_, hv, p, cW, dx, _, _, rfl, e _ _ h2, T.clW, T.nWar, fldsW_wares n t, q _ H1 (Ex.refl H1) rfl⟩
theorem ep_stalls (T : Txt K mg cE cW) {n : Nat} {ss : List Stl} {i : Nat} {v : V} {t : Addr} {xs : List V} (hv : σ[i]? = some (some v)) (h : WebAt K cW n ss v t xs H) : EvP (tFld K (tVar i) "stalls") σ H (pV (.ref t)) := fun H1 e Q q => by
  obtain ⟨p, dx, rfl, h2⟩ := h.ob
  exact ⟨_, hv, p, cW, dx, _, _, rfl, e _ _ h2, T.clW, T.nSta, fldsW_stalls n t, q _ H1 (Ex.refl H1) rfl⟩
theorem ep_stallsD (T : Txt K mg cE cW) {n : Nat} {ss : List Stl} {i : Nat} {v : V} {t : Addr} {xs : List V} (hv : σ[i]? = some (some v)) (h : WebAt K cW n ss v t xs H) : EvP (tFld K (tVar i) "stalls") σ H (pD K (.tuple (ss.map stlD))) :=
  (ep_stalls T hv h).imp fun v' H' e p => by
    obtain rfl : v' = .ref t := p
    exact .tup (ex_t e h.tp) (DpAll.up e h.da)
theorem ep_isiLT {ds : List PyData} (h : EvP te σ H (pD K (.list ds))) : EvP (tCB (rIsiT K) (tCons te (tCons (tTup (tCons (tC (.ty "list")) (tCons (tC (.ty "tuple")) tNil))) tNil))) σ H (pB true) := fun H1 e Q q =>
  h H1 e _ fun v H2 e2 p => ⟨by show 2 ≤ sizeLine; decide, fun tp htp => by
    obtain ⟨a, xs, rfl, h1, h2⟩ := Dp.lst_inv p
    exact ⟨_, tp, _, .type "list", [.type "list", .type "tuple"], true, rfl, upd_same, .cons (.ty _) (.cons (.ty _) .nil), tyx_lst (ex_l (Ex.new htp) h1), kitAny_cons (b := true) (kit_ty (by decide +kernel)) (fun z => nomatch z) (fun _ => rfl), q _ _ (e2.trans (Ex.new htp)) rfl⟩⟩
/-- Web(wares, stalls) -/
def spInitW (K : PySem.W.Frag) (C : Addr) : Sp := fun vs H Q _ => ∃ (p dx l : Addr) (n : Nat) (ss : List Stl), vs = [.ref p, .int (n : Nat), .ref l] ∧ H p = some (.ins C dx []) ∧ WOk n ss ∧ Dp K H (.ref l) (.list (ss.map stlD)) ∧
  ∀ H' t xs, (∀ c o, H c = some o → c ≠ p → H' c = some o) → H' p = some (.ins C dx (fldsW n t)) → SqT K H' t xs → DpAll K H' xs (ss.map stlD) → Q .non H'
theorem okInitW (T : Txt K mg cE cW) : Mak P w K mg base 6 "Web" cW (spInitW K cW) [] := by
  have sc : FnScope ["self", "wares", "stalls", "index", "stall"] ["self", "wares", "stalls"] (defScope (cls 19 0)) := ⟨rfl, rfl, rfl, by decide +kernel, rfl, by decide +kernel, by decide +kernel⟩
  refine T.iW.mak sc (fun vs H Q E h => by obtain ⟨p, dx, l, n, ss, rfl, _⟩ := h; rfl) fun cdv f A outer s H vs Q E hr h => ?_
  obtain ⟨p, dx, l, n, ss, rfl, hp, hok, hd, k⟩ := h
  obtain ⟨tMW, cMW⟩ := T.cMW
  obtain ⟨tMS, cMS⟩ := T.cMS
  obtain ⟨l', xs, el, hl, hxs⟩ := Dp.lst_inv hd
  cases el
  refine ⟨_, pss_cons (ps_if (PW.pt (pw_or (pt_not (pt_val (pe_c (ok7 T) hr (by decide) rfl (pa_cons (pv 1) pa_nil))))
      (pw_or1 (pt_not (pt_chain op_le op_le pe_int (pv 1) (pe_glob (v := .int 8) rfl cMW ⟨_, rfl⟩)))))) (pss_one ps_never) pss_nil)
    (pss_cons (ps_if (PW.pt (pw_or (pt_not (pt_val (pe_callB call_isiT (by rfl) T.b_isi (by decide +kernel) (pa_cons (pv 2) (pa_cons (pe_tup (pa_cons (pe_bltn (v := .ty "list") (by rfl) T.b_list (by decide +kernel) rfl) (pa_cons (pe_bltn (v := .ty "tuple") (by rfl) T.b_tuple (by decide +kernel) rfl) pa_nil))) pa_nil)))))
      (pw_or1 (pt_cmpR op_gt (pe_callB call_len_seq (by rfl) T.b_len (by decide +kernel) (pa_cons (pv 2) pa_nil)) (pe_glob (v := .int 16) rfl cMS ⟨_, rfl⟩) (nomark _))))) (pss_one ps_never) pss_nil)
    (pss_cons (ps_for PassesOwn.never rfl (pi_enum (by rfl) T.b_enum (pa_cons (pv 2) pa_nil)) (pg_tup rfl (pgs_cons (pg_name (i := 3) sc.nd rfl (.inl rfl)) (pgs_cons (pg_name (i := 4) sc.nd rfl (.inl rfl)) pgs_nil)))
      (pss_one (ps_if (pt_not (pt_val (pe_c (ok18 T) hr (by decide) rfl (pa_cons (pv 4) (pa_cons (pv 1) pa_nil))))) (pss_one ps_never) pss_nil)))
    (pss_cons (ps_fld (pv 0) (pv 1) rfl)
    (pss_one (ps_fld (pv 0) (pe_callTy call_tuple_of (by rfl) T.b_tuple (by decide +kernel) (pa_cons (pv 2) pa_nil)) rfl))))), ?_⟩
  have h1 := hok.n1
  have h2 := hok.n8
  have h3 := hok.len
  refine p_pass (et_is (et_or (et_not (pt_B (ep_call (n : Int) trivial (ea_cons (ep_vi rfl) ea_nil)))) fun _ => et_not (pt_test (ep_chain ep_i (ep_vi rfl) ep_i))) ?_) fun H1 e1 => ?_
  · have a1 : (1 : Int) ≤ (n : Nat) := by omega
    have a2 : ((n : Nat) : Int) ≤ 8 := by omega
    simp [a1, a2]
  have hd1 : (pD K (.list (ss.map stlD))).p (.ref l) H1 := Dp.up e1 hd
  refine p_pass (et_is (et_or (et_not (pt_B (ep_isiLT (ep_var rfl hd1)))) fun _ => pt_test (ep_op (ep_cb (ea_cons (ep_var rfl hd1) ea_nil) cp_lenL) ep_i rp_I0b)) ?_) fun H2 e2 => ?_
  · have a1 : ¬ (16 : Int) < ((ss.map stlD).length : Nat) := by rw [List.length_map]; omega
    simp only [Bool.not_true, Bool.false_or, decide_eq_false_iff_not]
    exact a1
  have e02 := e1.trans e2
  refine p_enumL (H0 := H) (ea_cons (ep_vv rfl) ea_nil) hl e02 (fun i σ' H' => ∃ a b, σ' = [some (.ref p), some (.int (n : Nat)), some (.ref l), a, b] ∧ Ex H H') (fun H3 e3 => ⟨none, none, rfl, e02.trans e3⟩) (fun i σ' H' ⟨_, _, _, e⟩ => e) ?_ ?_
  · rintro i x σ' H3 H4 hi ⟨a, b, rfl, e3⟩ e4
    obtain ⟨d, h5, h6⟩ := DpAll.get hxs hi
    rw [List.getElem?_map] at h5
    cases es : ss[i]? with
    | none => rw [es] at h5; cases h5
    | some st =>
      rw [es] at h5
      cases h5
      refine s_when (b := false) (et_not (pt_B (b := true) (ep_call (st, n) (hok.ok st (List.mem_of_getElem? es)) (ea_cons (ep_var rfl (show (pD K (stlD st)).p x H4 from Dp.up (e3.trans e4) h6)) (ea_cons (ep_vi rfl) ea_nil))))) (fun z => nomatch z) fun _ H5 e5 => ?_
      exact ⟨_, _, rfl, (e3.trans e4).trans e5⟩
  · rintro σ' H3 ⟨a, b, rfl, e3⟩
    have hp3 := e3 _ _ hp
    refine ⟨_, rfl, _, rfl, p, cW, dx, [], rfl, hp3, T.clW, T.nWar, (by show 0 < 1000; decide), ?_⟩
    have hd3 := DpAll.ins (o := .ins cW dx (putF "wares" (.int (n : Nat)) [])) hp3 (DpAll.up e3 hxs)
    have hl3 := sqL_ins (o := .ins cW dx (putF "wares" (.int (n : Nat)) [])) hp3 (ex_l e3 hl)
    refine ⟨_, rfl, l, xs, rfl, .inl ⟨hl3, fun q hq => ?_⟩⟩
    have hpq : p ≠ q := ne_of_none upd_same hq
    have hp4 : (upd (upd H3 p (.ins cW dx (putF "wares" (.int (n : Nat)) []))) q (.tup xs)) p = some (.ins cW dx (putF "wares" (.int (n : Nat)) [])) := by rw [upd_ne hpq, upd_same]
    refine ⟨_, rfl, p, cW, dx, _, rfl, hp4, T.clW, T.nSta, (by show 1 < 1000; decide), ?_⟩
    have hd4 := DpAll.ins (o := .ins cW dx (fldsW n q)) hp4 (DpAll.up (Ex.new hq) hd3)
    refine k _ q xs (fun c o e hc => ?_) ?_ ?_ hd4
    · rw [upd_ne hc, upd_ne (ne_of_none (show _ = some o from ?_) hq), upd_ne hc]
      · exact e3 _ _ e
      · rw [upd_ne hc]; exact e3 _ _ e
    · exact upd_same
    · refine SqT.of ?_
      rw [upd_ne (Ne.symm hpq), upd_same]
theorem ep_mkW {t : TA} {n : Nat} {ss : List Stl} (hok : WOk n ss) (h : EvPA t σ H [pI (n : Nat), pD K (.list (ss.map stlD))]) : EvP (tMake cW (spInitW K cW) [] L2.E0 t) σ H (pW K cW n ss) := fun H1 e Q q =>
  h H1 e _ fun vs H2 e2 ps x dx hx hdx hne => by
    obtain ⟨v, r, rfl, p, v2, r2, rfl, p2, e3⟩ := ps
    cases e3
    cases p
    obtain ⟨l, xs, rfl, hl, hxs⟩ := Dp.lst_inv p2
    have ex2 : Ex H2 (upd (upd H2 dx (.own x)) x (.ins cW dx [])) := fun c o z => by
      rw [upd_ne (ne_of_none z hx), upd_ne (ne_of_none z hdx)]
      exact z
    refine ⟨x, dx, l, n, ss, rfl, upd_same, hok, Dp.up ex2 p2, fun H' t ys k hp ht hy => ⟨rfl, q _ H' (e2.trans fun c o z => k c o (ex2 c o z) (ne_of_none z hx)) ⟨t, ys, ⟨x, dx, rfl, hp⟩, ht, hy⟩⟩⟩
end
end K43
set_option Elab.async false
set_option linter.all false
set_option maxRecDepth 100000
set_option maxHeartbeats 4000000
/-! k43, part F5: roots_exact, piece_of, pieces. -/
namespace K43
open PySem PySem.Spec L2 Evl C8

/-! ### what never changes: tuples, instances, what is locked -/
def fixed : HO → Bool
  | .tup _ => true
  | .ins _ _ _ => true
  | .frz _ _ => true
  | _ => false
def ExF (H H' : Hp) : Prop := ∀ a o, fixed o = true → H a = some o → H' a = some o
theorem ExF.refl (H : Hp) : ExF H H := fun _ _ _ h => h
theorem ExF.trans {H H1 H2 : Hp} (a : ExF H H1) (b : ExF H1 H2) : ExF H H2 := fun x o f h => b x o f (a x o f h)
theorem ExF.of {H H' : Hp} (e : Ex H H') : ExF H H' := fun a o _ h => e a o h
theorem ExF.upd {H : Hp} {p : Addr} {o u : HO} (h : H p = some u) (f : fixed u = false) : ExF H (upd H p o) := fun a v fv e => by
  rw [upd_ne]
  · exact e
  · rintro rfl
    rw [h] at e
    cases e
    rw [f] at fv
    cases fv
theorem sqT_F {K : PySem.W.Frag} {H H' : Hp} {a : Addr} {xs : List V} (e : ExF H H') (q : SqT K H a xs) : SqT K H' a xs := by
  rcases q with (q | ⟨ob, q⟩) | q
  · exact .inl (.inl (e _ _ rfl q))
  · exact .inl (.inr ⟨ob, e _ _ rfl q⟩)
  · exact .inr q
structure PD.Fx (P : PD) : Prop where
  fx : ∀ {v : V} {H H' : Hp}, ExF H H' → P.p v H → P.p v H'
theorem fx_I {i : Int} : (pI i).Fx := ⟨fun _ h => h⟩
theorem fx_V {x : V} : (pV x).Fx := ⟨fun _ h => h⟩
theorem fx_E {C : Addr} {q : Rat} : (pE C q).Fx := ⟨fun e ⟨p, dx, h, k⟩ => ⟨p, dx, h, e _ _ rfl k⟩⟩
mutual
theorem Dp.fx {K : PySem.W.Frag} {H H' : Hp} (e : ExF H H') : ∀ {v : V} {d : PyData}, noList d = true → Dp K H v d → Dp K H' v d
  | _, _, _, .non => .non
  | _, _, _, .bl b => .bl b
  | _, _, _, .int i => .int i
  | _, _, _, .str x => .str x
  | _, _, n, .lst _ _ => by simp [noList] at n
  | _, _, n, .tup q a => .tup (sqT_F e q) (DpAll.fx e (by simpa [noList] using n) a)
theorem DpAll.fx {K : PySem.W.Frag} {H H' : Hp} (e : ExF H H') : ∀ {vs : List V} {ds : List PyData}, noListAll ds = true → DpAll K H vs ds → DpAll K H' vs ds
  | _, _, _, .nil => .nil
  | _, _, n, .cons a t => by
    have n' := (Bool.and_eq_true _ _).mp (by simpa only [noListAll] using n)
    exact .cons (Dp.fx e n'.1 a) (DpAll.fx e n'.2 t)
end
theorem fx_D {K : PySem.W.Frag} {d : PyData} (n : noList d = true) : (pD K d).Fx := ⟨fun e p => Dp.fx e n p⟩
/-- some exact number of at most so many bits -/
def pES (C : Addr) (k : Nat) : PD := ⟨fun v H => ∃ q, Sz k q ∧ (pE C q).p v H, fun e ⟨q, s, h⟩ => ⟨q, s, PD.up _ e h⟩⟩
theorem fx_ES {C : Addr} {k : Nat} : (pES C k).Fx := ⟨fun e ⟨q, s, h⟩ => ⟨q, s, fx_E.fx e h⟩⟩

section
variable {K : PySem.W.Frag} {σ : L2.St} {H H' : Hp} {td ty tx tv te : TE} {P R : PD} {D : Ends} {tz : TS}
theorem ep_rowL {p : Addr} {vs : List V} {i : Nat} {x : V} (h1 : EvP td σ H (pV (.ref p))) (h2 : EvP ty σ H (pI (i : Nat))) (hp : H p = some (.lst vs)) (hi : vs[i]? = some x) : EvP (tOp (rIxL K) td ty) σ H (pV x) :=
  ep_op h1 h2 fun a b H1 e pa pb Q q => by
    obtain rfl : a = .ref p := pa
    obtain rfl : b = .int (i : Nat) := pb
    exact ⟨p, vs, (i : Nat), x, rfl, rfl, SqL.of (e _ _ hp), atI_nat hi, q _ H1 (Ex.refl H1) rfl⟩
theorem ep_dget {d : Addr} {kvs : List (Key × V)} {k : Int} {v : V} (h1 : EvP td σ H (pV (.ref d))) (h2 : EvP ty σ H (pI k)) (hd : H d = some (.dK kvs)) (hv : valV kvs (.inl k) = some v) : EvP (tDGet td ty) σ H (pV v) := fun H1 e Q q =>
  h1 H1 e _ fun a H2 e2 pa => h2 H2 (e.trans e2) _ fun b H3 e3 pb => by
    obtain rfl : a = .ref d := pa
    obtain rfl : b = .int k := pb
    refine ⟨d, v, rfl, ?_, q _ H3 (e2.trans e3) rfl⟩
    have := DGet.k (k := Sum.inl k) ((e.trans (e2.trans e3)) _ _ hd)
    rw [hv] at this
    exact this
theorem ep_dget2 {d : Addr} {kvs : List (Key × V)} {k : Int} (h1 : EvP td σ H (pV (.ref d))) (h2 : EvP ty σ H (pI k)) (hx : EvP tx σ H P) (hd : H d = some (.dK kvs)) (hv : ∀ v, valV kvs (.inl k) = some v → P.p v H) : EvP (tDGet2 td ty tx) σ H P := fun H1 e Q q =>
  h1 H1 e _ fun a H2 e2 pa => by
    obtain rfl : a = .ref d := pa
    refine ⟨d, rfl, .inl ⟨kvs, .inl ((e.trans e2) _ _ hd)⟩, h2 H2 (e.trans e2) _ fun b H3 e3 pb => hx H3 ((e.trans e2).trans e3) _ fun z H4 e4 pz => ?_⟩
    obtain rfl : b = .int k := pb
    have e04 := ((e.trans e2).trans e3).trans e4
    refine ⟨_, DGet.k (k := Sum.inl k) (e04 _ _ hd), q _ H4 ((e2.trans e3).trans e4) ?_⟩
    cases hc : valV kvs (.inl k) with
    | none => exact pz
    | some v => exact PD.up _ e04 (hv v hc)
theorem et_dnotin {d : Addr} {kvs : List (Key × V)} {k : Int} (h1 : EvP ty σ H (pI k)) (h2 : EvP td σ H (pV (.ref d))) (hd : H d = some (.dK kvs)) : EvT (tB (tDNotIn ty td)) σ H (!(valV kvs (.inl k)).isSome) := fun H1 e Q q =>
  h1 H1 e _ fun b H2 e2 pb => h2 H2 (e.trans e2) _ fun a H3 e3 pa => by
    obtain rfl : a = .ref d := pa
    obtain rfl : b = .int k := pb
    exact ⟨d, _, rfl, DGet.k (k := Sum.inl k) ((e.trans (e2.trans e3)) _ _ hd), _, rfl, q H3 (e2.trans e3)⟩
theorem et_din {d : Addr} {kvs : List (Key × V)} {k : Int} (h1 : EvP ty σ H (pI k)) (h2 : EvP td σ H (pV (.ref d))) (hd : H d = some (.dK kvs)) : EvT (tB (tDIn ty td)) σ H ((valV kvs (.inl k)).isSome) := fun H1 e Q q =>
  h1 H1 e _ fun b H2 e2 pb => h2 H2 (e.trans e2) _ fun a H3 e3 pa => by
    obtain rfl : a = .ref d := pa
    obtain rfl : b = .int k := pb
    exact ⟨d, _, rfl, DGet.k (k := Sum.inl k) ((e.trans (e2.trans e3)) _ _ hd), _, rfl, q H3 (e2.trans e3)⟩
/-- d[k] = v -/
theorem p_dput1 {d : Addr} {kvs : List (Key × V)} {k : Int} (hv : EvP tv σ H P) (h1 : EvP td σ H (pV (.ref d))) (h2 : EvP ty σ H (pI k)) (hd : H d = some (.dK kvs)) (hl : kvs.length ≤ 10000) (kk : ∀ v H1, Ex H H1 → P.p v H1 → D.nx σ (upd H1 d (.dK (putK kvs (.inl k) v)))) : sDPut td ty tv D σ H :=
  hv H (Ex.refl H) _ fun v H1 e1 pv => h1 H1 e1 _ fun a H2 e2 pa => h2 H2 (e1.trans e2) _ fun b H3 e3 pb => by
    obtain rfl : a = .ref d := pa
    obtain rfl : b = .int k := pb
    exact ⟨d, _, rfl, DPut.k (k := Sum.inl k) ((e1.trans (e2.trans e3)) _ _ hd) (sz_lt (by omega)), kk v H3 (e1.trans (e2.trans e3)) (PD.up _ (e2.trans e3) pv)⟩
theorem p_dput {d : Addr} {kvs : List (Key × V)} {k : Int} (hv : EvP tv σ H P) (h1 : EvP td σ H (pV (.ref d))) (h2 : EvP ty σ H (pI k)) (hd : H d = some (.dK kvs)) (hl : kvs.length ≤ 10000) (kk : ∀ v H1, Ex H H1 → P.p v H1 → tz D σ (upd H1 d (.dK (putK kvs (.inl k) v)))) : tSeq (sDPut td ty tv) tz D σ H :=
  p_dput1 (D := { D with nx := tz D }) hv h1 h2 hd hl kk
end
theorem putK_mem {kvs : List (Key × V)} {k j : Key} {v : V} : j ∈ (putK kvs k v).map (·.1) ↔ j = k ∨ j ∈ kvs.map (·.1) := by
  have key : ∀ (l : List (Key × V)) (i : Key), i ∈ l.map (·.1) ↔ (valV l i).isSome = true := by
    intro l i
    constructor
    · intro h
      cases hc : valV l i with
      | none => exact absurd h (valV_not hc)
      | some v => rfl
    · intro h
      obtain ⟨v, hv⟩ := Option.isSome_iff_exists.mp h
      exact valV_in hv
  rw [key, key, valV_put]
  by_cases h : j = k
  · simp [h]
  · simp [h]
theorem putK_len {kvs : List (Key × V)} {k : Key} {v : V} : (putK kvs k v).length ≤ kvs.length + 1 := by
  unfold putK
  split
  · rw [List.length_map]; omega
  · rw [List.length_append]; simp
end K43
set_option Elab.async false
set_option linter.all false
set_option maxRecDepth 100000
set_option maxHeartbeats 4000000
/-! k43, part F6: roots_exact. -/
namespace K43
open PySem PySem.Spec L2 Evl C8

def dirs (s : Stl) : List (Nat × Nat) := [(s.u, s.v), (s.v, s.u)]
/-- the rows of the dicts of roots: at p the list of the dicts at ds, whose keys are told by l -/
structure Rows (C : Addr) (n : Nat) (H H' : Hp) (p : Addr) (ds : List Addr) (l : List (Nat × Nat)) : Prop where
  ex : Ex H H'
  fr : H p = none
  hp : H' p = some (.lst (ds.map V.ref))
  len : ds.length = n
  nd : ds.Nodup
  fd : ∀ d ∈ ds, H d = none
  row : ∀ (i : Nat) (d : Addr), ds[i]? = some d → ∃ kvs, H' d = some (.dK kvs) ∧ kvs.length ≤ l.length ∧ (∀ k, k ∈ kvs.map (·.1) ↔ ∃ t : Nat, k = Sum.inl (t : Int) ∧ (i, t) ∈ l) ∧
    ∀ k v, valV kvs k = some v → (pES C (11 * (l.length + 1))).p v H'
theorem Rows.up {C : Addr} {n : Nat} {H H' H'' : Hp} {p : Addr} {ds : List Addr} {l : List (Nat × Nat)} (r : Rows C n H H' p ds l) (e : Ex H' H'') : Rows C n H H'' p ds l where
  ex := r.ex.trans e
  fr := r.fr
  hp := e _ _ r.hp
  len := r.len
  nd := r.nd
  fd := r.fd
  row := fun i d hi => by
    obtain ⟨kvs, h1, h2, h3, h4⟩ := r.row i d hi
    exact ⟨kvs, e _ _ h1, h2, h3, fun k v hv => PD.up _ e (h4 k v hv)⟩
section
variable {K : PySem.W.Frag} {σ : L2.St} {H : Hp} {tl : TE} {D : Ends} {tu : TS} {g : TG}
/-- for x in t, t a tuple made on the way; lists and dicts may change -/
theorem p_forTF1 {Ps : List PD} (h : EvP tl σ H (pT K Ps)) (Pv : Hp → Nat → L2.St → Hp → Prop) (h0 : ∀ H1, Ex H H1 → Pv H1 0 σ H1) (hx : ∀ H1 i σ' H', Pv H1 i σ' H' → ExF H1 H')
    (hs : ∀ H1 i P x σ' H', Ex H H1 → Ps[i]? = some P → P.p x H1 → Pv H1 i σ' H' → g x σ' H' fun σ2 H2 => tu { D with nx := Pv H1 (i + 1), ct := Pv H1 (i + 1), bk := D.nx } σ2 H2)
    (hd : ∀ H1 σ' H', Ex H H1 → Pv H1 Ps.length σ' H' → D.nx σ' H') : tFor (iTup K tl) g tu D σ H := h H (Ex.refl H) _ fun v H1 e1 pv => by
  obtain ⟨a, xs, rfl, hxs, hA⟩ := pv
  have hl := Alls.len hA
  refine ⟨a, rfl, ⟨xs, hxs⟩, for_tup (xs := xs) (fun i σ' H' => Pv H1 i σ' H') (h0 H1 e1) (fun i σ' H' _ p => sqT_F (hx H1 i σ' H' p) hxs) (fun i x σ' H' hi p => ?_) fun σ' H' p => ?_⟩
  · obtain ⟨P, hP, pP⟩ := Alls.getv hA hi
    exact hs H1 i P x σ' H' e1 hP pP p
  · rw [hl] at p
    exact hd H1 σ' H' e1 p
end
theorem pES_mono {C : Addr} {j k : Nat} {v : V} {H : Hp} (h : (pES C j).p v H) (l : j ≤ k) : (pES C k).p v H := by
  obtain ⟨q, s, p⟩ := h
  exact ⟨q, s.mono l, p⟩
theorem Rows.put {C : Addr} {n : Nat} {H H' : Hp} {p d : Addr} {ds : List Addr} {l : List (Nat × Nat)} (r : Rows C n H H' p ds l) {i t : Nat} {kvs : List (Key × V)} {v : V} (hi : ds[i]? = some d) (hd : H' d = some (.dK kvs)) (hv : (pES C (11 * (l.length + 2))).p v H') :
    Rows C n H (upd H' d (.dK (putK kvs (Sum.inl (t : Int)) v))) p ds (l ++ [(i, t)]) where
  ex := Ex.mut r.ex (r.fd d (List.mem_of_getElem? hi))
  fr := r.fr
  hp := by rw [upd_ne (ne_of r.hp hd (by intro z; cases z))]; exact r.hp
  len := r.len
  nd := r.nd
  fd := r.fd
  row := fun j c hj => by
    have ef : ExF H' (upd H' d (.dK (putK kvs (Sum.inl (t : Int)) v))) := ExF.upd hd rfl
    have hl : (l ++ [(i, t)]).length = l.length + 1 := by simp
    by_cases hc : c = d
    · subst hc
      have ij : i = j := nd_ix r.nd hi hj
      subst ij
      obtain ⟨kvs2, h1, h2, h3, h4⟩ := r.row i c hi
      rw [hd] at h1
      cases h1
      refine ⟨_, upd_same, ?_, fun k => ?_, fun k w hw => ?_⟩
      · have := putK_len (kvs := kvs) (k := (Sum.inl (t : Int) : Key)) (v := v)
        rw [hl]; omega
      · rw [putK_mem, h3]
        constructor
        · rintro (rfl | ⟨t', rfl, m⟩)
          · exact ⟨t, rfl, by simp⟩
          · exact ⟨t', rfl, by simp [m]⟩
        · rintro ⟨t', rfl, m⟩
          rcases List.mem_append.mp m with m | m
          · exact .inr ⟨t', rfl, m⟩
          · have := List.mem_singleton.mp m
            cases this
            exact .inl rfl
      · rw [valV_put] at hw
        rw [hl]
        refine fx_ES.fx ef ?_
        split at hw
        · cases hw
          exact hv
        · exact pES_mono (h4 k w hw) (by omega)
    · obtain ⟨kvs2, h1, h2, h3, h4⟩ := r.row j c hj
      have ij : i ≠ j := fun z => by
        subst z
        rw [hi] at hj
        cases hj
        exact hc rfl
      refine ⟨kvs2, by rw [upd_ne hc]; exact h1, by rw [hl]; omega, fun k => ?_, fun k w hw => ?_⟩
      · rw [h3]
        constructor
        · rintro ⟨t', rfl, m⟩
          exact ⟨t', rfl, by simp [m]⟩
        · rintro ⟨t', rfl, m⟩
          rcases List.mem_append.mp m with m | m
          · exact ⟨t', rfl, m⟩
          · have := List.mem_singleton.mp m
            cases this
            exact absurd rfl ij
      · rw [hl]
        exact fx_ES.fx ef (pES_mono (h4 k w hw) (by omega))

section
variable {P : Program} {w : World} {K : PySem.W.Frag} {mg : Str → Option Value} {base : Heap} {cE cW : Addr} {σ : L2.St} {H : Hp} {te tx : TE}
def spRoots (K : PySem.W.Frag) (cE cW : Addr) : Sp := fun vs H Q _ => ∃ n ss v, WOk n ss ∧ vs = [v] ∧ (pW K cW n ss).p v H ∧ ∀ p ds H', Rows cE n H H' p ds (ss.flatMap dirs) → Q (.ref p) H'
theorem flat_snoc {ss : List Stl} {i : Nat} {s : Stl} (h : ss[i]? = some s) : (ss.take (i + 1)).flatMap dirs = (ss.take i).flatMap dirs ++ [(s.u, s.v)] ++ [(s.v, s.u)] := by
  rw [List.take_add_one, h]
  simp [dirs]
theorem flat_len (ss : List Stl) : (ss.flatMap dirs).length = 2 * ss.length := by
  induction ss with
  | nil => rfl
  | cons s ss ih => rw [List.flatMap_cons, List.length_append, ih, List.length_cons]; simp [dirs]; omega
theorem sz_one (k : Nat) (h : 0 < k) : Sz k 1 := by
  refine Sz.mono (j := 1) ⟨by decide, by decide⟩ h
theorem sz_zero (k : Nat) (h : 0 < k) : Sz k 0 := by
  refine Sz.mono (j := 1) ⟨by decide, by decide⟩ h
theorem sz_add {j k : Nat} {q r : Rat} (hq : Sz j q) (hr : Sz k r) : Sz (j + k + 1) (q + r) := by
  rw [Rat.add_def']
  refine sz_mkRat ?_ ?_ (Nat.mul_pos q.den_pos r.den_pos)
  · refine wadd (c := j + k) (wide_lt hq.1 hr.2) ?_
    have := wide_lt (i := r.num) (j := (q.den : Nat)) hr.1 (b := j) (by show q.den < _; exact hq.2)
    rw [Nat.add_comm k j] at this
    exact this
  · have := Nat.mul_lt_mul'' hq.2 hr.2
    rw [← Nat.pow_add] at this
    exact Nat.lt_of_lt_of_le this (Nat.pow_le_pow_right (by decide) (by omega))
def pRows (C : Addr) (n : Nat) (H0 : Hp) (l : List (Nat × Nat)) : PD := ⟨fun v H => ∃ p ds, v = .ref p ∧ Rows C n H0 H p ds l, fun e ⟨p, ds, h, r⟩ => ⟨p, ds, h, r.up e⟩⟩
/-- [{} for x in range(n)] -/
theorem ep_dicts {C : Addr} {n : Nat} {σ : L2.St} {H : Hp} {ta : TA} {j : Nat} {vs : List Nat} (h : EvPA ta σ H [pI (n : Int)]) (hz : n ≤ 10000) (hw : ∀ x, wipe ((wipe σ vs).set j (some x)) vs = wipe σ vs) : EvP (tLc (iRng1 ta) (gName j) tYes tDNewK vs) σ H (pRows C n H []) := fun H0 e Q q => h H0 e _ fun ws H1 e1 ps => by
  obtain ⟨v1, r1, rfl, pv1, er⟩ := ps
  cases er
  cases pv1
  have hn : (n : Int).toNat = n := by omega
  refine ⟨n, rfl, by omega, by omega, fun D hD => lc_range (lo := 0) (n := (n : Int).toNat) (fun i H' => ∃ ds : List Addr, ds.length = i ∧ ds.Nodup ∧ Ex H1 H' ∧ H' D = some (.lst (ds.map V.ref)) ∧ ∀ d ∈ ds, H1 d = none ∧ H' d = some (.dK [])) ⟨[], rfl, List.nodup_nil, Ex.new hD, upd_same, fun d hd => by cases hd⟩ ?_ ?_⟩
  · rintro i H2 hi ⟨ds, hl, nd, e2, hD2, hds⟩
    refine ⟨hw _, fun p hp => ?_⟩
    have hDp : D ≠ p := ne_of_none hD2 hp
    refine ⟨_, by rw [upd_ne hDp]; exact hD2, sz_lt (by rw [List.length_map]; omega), ds ++ [p], by simp [hl], ?_, ?_, ?_, ?_⟩
    · refine nd_snoc nd fun m => ?_
      rw [(hds p m).2] at hp
      cases hp
    · exact Ex.mut (e2.trans (Ex.new hp)) hD
    · rw [upd_same]; simp
    · intro d hd
      rcases List.mem_append.mp hd with m | m
      · have hdD : d ≠ D := ne_of (hds d m).2 hD2 (by intro z; cases z)
        exact ⟨(hds d m).1, by rw [upd_ne hdD, upd_ne (ne_of_none (hds d m).2 hp)]; exact (hds d m).2⟩
      · have := List.mem_singleton.mp m
        subst this
        exact ⟨fresh_back e2 hp, by rw [upd_ne (Ne.symm hDp), upd_same]⟩
  rw [hn]
  rintro H2 ⟨ds, hl, nd, e2, hD2, hds⟩
  have e02 : Ex H H2 := e.trans (e1.trans e2)
  exact q _ H2 (e1.trans e2) ⟨D, ds, rfl, e02, fresh_back (e.trans e1) hD, hD2, hl, nd, fun d hd => fresh_back (e.trans e1) (hds d hd).1, fun i d hi => ⟨[], (hds d (List.mem_of_getElem? hi)).2, Nat.zero_le _, fun k => by simp, fun k v hv => by cases hv⟩⟩
theorem ep_E01 {E : XK} : EvP (tMake cE (spInitE cE) [] L2.E0 (tCons (tC (.int 0)) (tCons (tC (.int 1)) tNil))) σ H (pE cE 0) :=
  ep_mkE' (ea_cons ep_i (ea_cons ep_i ea_nil)) (by decide) (by decide) (by decide) (by decide +kernel)
theorem ok20 (T : Txt K mg cE cW) : Cal P w K mg base 5 "roots_exact" (spRoots K cE cW) [] := by
  have sc : FnScope ["web", "found", "one", "other", "amount", "second", "root", "here", "there", "ware"] ["web"] (defScope (top 20)) := ⟨rfl, rfl, rfl, by decide +kernel, rfl, by decide +kernel, by decide +kernel⟩
  refine T.d20.cal sc (fun vs H Q E h => by obtain ⟨n, ss, v, _, rfl, _⟩ := h; rfl) fun cdv f A outer s H vs Q E hr h => ?_
  obtain ⟨n, ss, v, hok, rfl, ⟨t, xs, hw⟩, k⟩ := h
  have hu := hu_of hr
  refine ⟨_, pss_cons (ps_setLc (i := 1) (own := [("ware", 9)]) (g := gName 9) (tt := tYes) (by rfl) sc.nd rfl rfl (sw_true rfl rfl rfl (by decide +kernel)) (pi_range1 rfl T.b_range (pa_cons (pe_fld (pv 0) rfl) pa_nil)) (blkOk_by (N := ["web", "found", "one", "other", "amount", "second", "root", "here", "there", "ware"]) (sc := defScope (top 20)) (by decide +kernel)) (fun _ _ _ _ _ => pg_name (i := 9) sc.nd rfl (.inl rfl)) (fun _ _ _ _ _ => pts_nil) (fun _ _ _ _ _ => pe_dnewK))
    (pss_cons (ps_for PassesOwn.never rfl (pi_tup (pe_fld (pv 0) rfl)) (pg_tup rfl (pgs_cons (pg_name (i := 2) sc.nd rfl (.inl rfl)) (pgs_cons (pg_name (i := 3) sc.nd rfl (.inl rfl)) (pgs_cons (pg_name (i := 4) sc.nd rfl (.inl rfl)) (pgs_cons (pg_name (i := 5) sc.nd rfl (.inl rfl)) (pgs_cons (pg_name (i := 6) sc.nd rfl (.inl rfl)) pgs_nil))))))
      (pss_one (ps_for PassesOwn.never rfl (pi_tup (pe_tup (pa_cons (pe_tup (pa_cons (pv 2) (pa_cons (pv 3) pa_nil))) (pa_cons (pe_tup (pa_cons (pv 3) (pa_cons (pv 2) pa_nil))) pa_nil)))) (pg_tup rfl (pgs_cons (pg_name (i := 7) sc.nd rfl (.inl rfl)) (pgs_cons (pg_name (i := 8) sc.nd rfl (.inl rfl)) pgs_nil)))
        (pss_one (ps_dput hu (pe_ix ix_list (pv 1) (pv 7) (fun _ _ => rfl)) (pv 8) (pe_op (op_addE T hr (by decide)) (pe_dget2 hu (pe_ix ix_list (pv 1) (pv 7) (fun _ _ => rfl)) (pv 8) (pe_mk (okInitE T) hr (by decide) rfl (pa_cons pe_int (pa_cons pe_int pa_nil))) ⟨rfl, rfl, rfl, rfl⟩) (pe_c (ok10 T) hr (by decide) rfl (pa_cons (pv 6) pa_nil))) rfl)))))
    (pss_one (ps_ret (pv 1)))), ?_⟩
  have n8 := hok.n8
  have hl16 := hok.len
  refine p_asg (ep_dicts (C := cE) (ea_cons (ep_wares T rfl hw) ea_nil) (by omega) (fun _ => rfl)) fun vD H2 e02 pD2 => ?_
  obtain ⟨D, ds, rfl, r0⟩ := pD2
  -- for one, other, amount, second, root in web.stalls
  refine p_forT (ep_stalls T rfl (hw.up e02)) hw.tp e02 (fun i σ' H' => ∃ a2 a3 a4 a5 a6 a7 a8, σ' = [some v, some (.ref D), a2, a3, a4, a5, a6, a7, a8, none] ∧ Rows cE n H H' D ds ((ss.take i).flatMap dirs)) (fun H3 e3 => ⟨none, none, none, none, none, none, none, rfl, r0.up e3⟩) (fun i σ' H' ⟨_, _, _, _, _, _, _, _, r⟩ => r.ex) ?_ ?_
  · rintro i x σ' H3 hi ⟨a2, a3, a4, a5, a6, a7, a8, rfl, r3⟩
    obtain ⟨st, hst, dx⟩ := hw.stl hi
    have so := hok.ok st (List.mem_of_getElem? hst)
    obtain ⟨ta, ys, rfl, hy, dy⟩ := Dp.tup_inv (show Dp K H3 x (stlD st) from Dp.up r3.ex dx)
    cases dy with | cons d1 dy => cases dy with | cons d2 dy => cases dy with | cons d3 dy => cases dy with | cons d4 dy => cases dy with | cons d5 dy =>
    cases dy
    cases d1
    cases d2
    rename_i y3 y4 y5
    refine ⟨ta, _, rfl, hy, rfl, _, _, rfl, _, _, rfl, _, _, rfl, _, _, rfl, _, _, rfl, rfl, ?_⟩
    -- for here, there in ((one, other), (other, one))
    have so5 := noList_rat st.r
    have hroot : (pD K (ratD st.r)).p y5 H3 := d5
    refine p_forTF1 (Ps := [pT K [pI st.u, pI st.v], pT K [pI st.v, pI st.u]]) (ep_tup (ea_cons (ep_tup (ea_cons (ep_vi rfl) (ea_cons (ep_vi rfl) ea_nil)) (by simp)) (ea_cons (ep_tup (ea_cons (ep_vi rfl) (ea_cons (ep_vi rfl) ea_nil)) (by simp)) ea_nil)) (by simp))
      (fun H4 j σ5 H5 => ∃ b7 b8, σ5 = [some v, some (.ref D), some (.int st.u), some (.int st.v), some y3, some y4, some y5, b7, b8, none] ∧ Ex H3 H4 ∧ ExF H4 H5 ∧ Rows cE n H H5 D ds (if j = 0 then (ss.take i).flatMap dirs else if j = 1 then (ss.take i).flatMap dirs ++ [(st.u, st.v)] else (ss.take (i + 1)).flatMap dirs))
      (fun H4 e4 => ⟨a7, a8, rfl, e4, ExF.refl _, by simpa using r3.up e4⟩) (fun H4 j σ5 H5 ⟨_, _, _, _, ef, _⟩ => ef) ?_ ?_
    · rintro H4 j Pj y σ5 H5 _ hj py ⟨b7, b8, rfl, e4, ef, r5⟩
      have hj2 : j < 2 := (List.getElem?_eq_some_iff.mp hj).1
      have pairs : ∃ c d : Nat, c < n ∧ (ss.take i).flatMap dirs ++ (if j = 0 then [] else [(st.u, st.v)]) ++ [(c, d)] = (if j = 0 then (ss.take i).flatMap dirs ++ [(st.u, st.v)] else (ss.take (i + 1)).flatMap dirs) ∧ (pT K [pI c, pI d]).p y H4 := by
        match j, hj2, hj with
        | 0, _, hj => cases hj; exact ⟨_, _, so.hu, by simp, py⟩
        | 1, _, hj => cases hj; exact ⟨_, _, so.hv, by simp [flat_snoc hst], py⟩
      obtain ⟨c, d, hc, hcd, tb, us, rfl, hus, u1, _, rfl, p1, u2, _, rfl, p2, eu⟩ := pairs
      cases eu
      cases p1
      cases p2
      refine ⟨tb, _, rfl, sqT_F ef hus, rfl, _, _, rfl, _, _, rfl, rfl, ?_⟩
      obtain ⟨dd, hdd⟩ : ∃ dd, ds[c]? = some dd := by
        have : c < ds.length := by rw [r5.len]; exact hc
        exact ⟨ds[c], by simp [this]⟩
      obtain ⟨kvs, hk1, hk2, hk3, hk4⟩ := r5.row c dd hdd
      have hll : (if j = 0 then (ss.take i).flatMap dirs else if j = 1 then (ss.take i).flatMap dirs ++ [(st.u, st.v)] else (ss.take (i + 1)).flatMap dirs).length ≤ 40 := by
        have h1 : (ss.take i).length ≤ 16 := by rw [List.length_take]; omega
        have h2 : (ss.take (i + 1)).length ≤ 16 := by rw [List.length_take]; omega
        have h3 := flat_len (ss.take i)
        have h4 := flat_len (ss.take (i + 1))
        split
        · omega
        · split
          · simp; simp at h3; omega
          · omega
      generalize hLL : (if j = 0 then (ss.take i).flatMap dirs else if j = 1 then (ss.take i).flatMap dirs ++ [(st.u, st.v)] else (ss.take (i + 1)).flatMap dirs) = LL at *
      have hnext : LL ++ [(c, d)] = (if j + 1 = 0 then (ss.take i).flatMap dirs else if j + 1 = 1 then (ss.take i).flatMap dirs ++ [(st.u, st.v)] else (ss.take (i + 1)).flatMap dirs) := by
        rw [← hLL]
        match j, hj2, hcd with
        | 0, _, hcd => simpa using hcd
        | 1, _, hcd => simpa using hcd
      have er : (pD K (ratD st.r)).p y5 H5 := (fx_D so5).fx ((ExF.of e4).trans ef) hroot
      have row : ∀ (σ : L2.St), σ[1]? = some (some (.ref D)) → σ[7]? = some (some (.int (c : Nat))) → EvP (tOp (rIxL K) (tVar 1) (tVar 7)) σ H5 (pV (.ref dd)) := fun σ s1 s7 => ep_rowL (ep_vv s1) (ep_var s7 rfl) r5.hp (by rw [List.getElem?_map, hdd]; rfl)
      refine p_dput1 (P := pES cE (11 * (LL.length + 2))) (k := (d : Nat)) (kvs := kvs) (d := dd) ?_ (row _ rfl rfl) (ep_vi rfl) hk1 (by omega) fun v6 H6 e6 p6 => ?_
      · intro H6 e6 Q6 q6
        refine (ep_dget2 (P := pES cE (11 * (LL.length + 1))) (row _ rfl rfl) (ep_vi (n := (d : Nat)) rfl) ((ep_E01 (E := L2.E0)).imp fun v H' _ p => ⟨0, sz_zero _ (by omega), p⟩) hk1 (fun v hv => hk4 _ v hv)) H6 e6 _ fun v7 H7 e7 p7 => ?_
        obtain ⟨q7, s7, p7⟩ := p7
        refine (ep_call st.r (so.sr.mono (by decide)) (ea_cons (ep_var rfl er) ea_nil)) H7 (e6.trans e7) _ fun v8 H8 e8 p8 => ?_
        refine (rp_addE (H := H8) (s7.mono (by omega)) (so.sr.mono (by decide))) v7 v8 H8 (Ex.refl _) (PD.up _ e8 p7) p8 Q6 fun v9 H9 e9 p9 => q6 v9 H9 ((e7.trans e8).trans e9) ⟨_, (sz_add s7 so.sr).mono (by omega), p9⟩
      · have hk1' := e6 _ _ hk1
        refine ⟨_, _, rfl, e4, (ef.trans (ExF.of e6)).trans (ExF.upd hk1' rfl), ?_⟩
        rw [← hnext]
        exact (r5.up e6).put hdd hk1' p6
    · rintro H4 σ5 H5 _ ⟨b7, b8, rfl, _, ef, r5⟩
      exact ⟨_, _, _, _, _, _, _, rfl, by simpa using r5⟩
  · rintro σ' H3 ⟨a2, a3, a4, a5, a6, a7, a8, rfl, r3⟩
    rw [hw.len, List.take_length] at r3
    exact p_ret (ep_vv rfl) fun v4 H4 e4 p4 => by
      obtain rfl : v4 = .ref D := p4
      exact k D ds H4 (r3.up e4)
end
end K43
set_option Elab.async false
set_option linter.all false
set_option maxRecDepth 100000
set_option maxHeartbeats 4000000
/-! k43, part S3: lists and dicts that change; webs as graphs. -/
namespace K43
open PySem PySem.Spec L2 Evl C8
section
variable {K : PySem.W.Frag} {σ : L2.St} {H H0 H' : Hp} {ta tb te tl tx : TE} {t tt : TT} {P P' R : PD} {D : Ends} {tu tw tz : TS} {g : TG}
/-- xs.append(e) -/
theorem p_app1 {l : Addr} {acc : List V} (hl : H l = some (.lst acc)) (ha : EvP ta σ H (pV (.ref l))) (h : EvP te σ H P) (hz : acc.length < 100000) (k : ∀ v H1, Ex H H1 → P.p v H1 → D.nx σ (upd H1 l (.lst (acc ++ [v])))) :
    tDrop (tBM K "list" rAppend ta (tCons te tNil)) D σ H := ha H (Ex.refl H) _ fun w H1 e1 pw => by
  obtain rfl : w = .ref l := pw
  exact ⟨Or.inl ⟨rfl, acc, sq_of (e1 l _ hl)⟩, h H1 e1 _ fun v H2 e2 pv => ⟨l, acc, v, rfl, rfl, e2 l _ (e1 l _ hl), sz_lt hz, k v H2 (e1.trans e2) pv⟩⟩
theorem p_app {l : Addr} {acc : List V} (hl : H l = some (.lst acc)) (ha : EvP ta σ H (pV (.ref l))) (h : EvP te σ H P) (hz : acc.length < 100000) (k : ∀ v H1, Ex H H1 → P.p v H1 → tz D σ (upd H1 l (.lst (acc ++ [v])))) :
    tSeq (tDrop (tBM K "list" rAppend ta (tCons te tNil))) tz D σ H := p_app1 (D := { D with nx := tz D }) hl ha h hz k
/-- xs.pop() as a value -/
theorem q_pop {l : Addr} {acc : List V} {v : V} (hl : H l = some (.lst (acc ++ [v]))) (ha : EvP ta σ H (pV (.ref l))) {Q : VK} (k : ∀ H1, Ex H H1 → Q v (upd H1 l (.lst acc))) : tBM0 K "list" rPop ta σ H Q := ha H (Ex.refl H) _ fun w H1 e1 pw => by
  obtain rfl : w = .ref l := pw
  refine ⟨Or.inl ⟨rfl, _, sq_of (e1 l _ hl)⟩, l, _, v, rfl, rfl, e1 l _ hl, by simp, ?_⟩
  rw [List.dropLast_concat]
  exact k H1 e1
/-- x = xs.pop() -/
theorem p_pop {l : Addr} {acc : List V} {v : V} {i : Nat} (hl : H l = some (.lst (acc ++ [v]))) (ha : EvP ta σ H (pV (.ref l))) (k : ∀ H1, Ex H H1 → tz D (σ.set i (some v)) (upd H1 l (.lst acc))) : tSeq (tAsg (tBM0 K "list" rPop ta) (gName i)) tz D σ H :=
  q_pop hl ha fun H1 e1 => k H1 e1
/-- {e: v} with an int for its key -/
theorem ep_disp1 {i : Int} {v : V} (ha : EvP ta σ H (pI i)) (hb : EvP tb σ H (pV v)) : EvP (tDisp [(ta, tb)]) σ H ⟨fun x H' => ∃ p, x = .ref p ∧ H p = none ∧ H' p = some (.dK [(Sum.inl i, v)]), fun e ⟨p, h1, h2, h3⟩ => ⟨p, h1, h2, e _ _ h3⟩⟩ := fun H1 e Q q p hp =>
  ha _ (e.trans (Ex.new hp)) _ fun x H2 e2 px => hb H2 ((e.trans (Ex.new hp)).trans e2) _ fun y H3 e3 py => by
    obtain rfl : x = .int i := px
    obtain rfl : y = v := py
    have h3 : H3 p = some (.dK []) := e3 _ _ (e2 _ _ upd_same)
    refine ⟨h3, [(Sum.inl i, y)], rfl, by simp, ?_⟩
    exact q _ _ (Ex.mut ((Ex.new hp).trans (e2.trans e3)) hp) ⟨p, rfl, fresh_back e hp, upd_same⟩
theorem ep_lstN {ta : TA} {Ps : List PD} (h : EvPA ta σ H Ps) (hl : Ps.length ≤ 1000) : EvP (tLst ta) σ H (pLN H Ps) := fun H1 e _ q =>
  h H1 e _ fun vs H2 e2 ps => ⟨sz_of (by rw [Alls.len ps]; omega), fun p hp => q _ _ (e2.trans (Ex.new hp)) ⟨p, vs, rfl, fresh_back (e.trans e2) hp, upd_same, Alls.up (Ex.new hp) ps⟩⟩
/-- for x in l, l a list made on the way; the heap may change, the list does not -/
theorem p_forLm (h : EvP tl σ H P) (k : ∀ v H1, Ex H H1 → P.p v H1 → ∃ a xs, v = .ref a ∧ H1 a = some (.lst xs) ∧ ∃ Pv : Nat → L2.St → Hp → Prop, Pv 0 σ H1 ∧ (∀ i σ' H', Pv i σ' H' → H' a = some (.lst xs)) ∧
    (∀ i x σ' H', xs[i]? = some x → Pv i σ' H' → g x σ' H' fun σ2 H2 => tu { D with nx := Pv (i + 1), ct := Pv (i + 1), bk := tz D } σ2 H2) ∧ ∀ σ' H', Pv xs.length σ' H' → tz D σ' H') : tSeq (tFor (iList K tl) g tu) tz D σ H :=
  h H (Ex.refl H) _ fun v H1 e1 p => by
    obtain ⟨a, xs, rfl, hx, Pv, h0, hl, hs, hd⟩ := k v H1 e1 p
    exact ⟨a, rfl, ⟨xs, SqL.of hx⟩, for_list (D := { D with nx := tz D }) Pv h0 (fun i σ' H' _ p => SqL.of (hl i σ' H' p)) hs hd⟩
theorem p_forLm1 (h : EvP tl σ H P) (k : ∀ v H1, Ex H H1 → P.p v H1 → ∃ a xs, v = .ref a ∧ H1 a = some (.lst xs) ∧ ∃ Pv : Nat → L2.St → Hp → Prop, Pv 0 σ H1 ∧ (∀ i σ' H', Pv i σ' H' → H' a = some (.lst xs)) ∧
    (∀ i x σ' H', xs[i]? = some x → Pv i σ' H' → g x σ' H' fun σ2 H2 => tu { D with nx := Pv (i + 1), ct := Pv (i + 1), bk := D.nx } σ2 H2) ∧ ∀ σ' H', Pv xs.length σ' H' → D.nx σ' H') : tFor (iList K tl) g tu D σ H :=
  h H (Ex.refl H) _ fun v H1 e1 p => by
    obtain ⟨a, xs, rfl, hx, Pv, h0, hl, hs, hd⟩ := k v H1 e1 p
    exact ⟨a, rfl, ⟨xs, SqL.of hx⟩, for_list Pv h0 (fun i σ' H' _ p => SqL.of (hl i σ' H' p)) hs hd⟩
end
theorem putK_new {kvs : List (Key × V)} {k : Key} {v : V} (h : k ∉ kvs.map (·.1)) : putK kvs k v = kvs ++ [(k, v)] := by
  unfold putK
  rw [if_neg]
  intro z
  obtain ⟨kv, h1, h2⟩ := List.any_eq_true.mp z
  exact h (List.mem_map.mpr ⟨kv, h1, of_decide_eq_true h2⟩)
theorem valV_some {kvs : List (Key × V)} {k : Key} : (valV kvs k).isSome = true ↔ k ∈ kvs.map (·.1) := by
  constructor
  · intro h
    obtain ⟨v, hv⟩ := Option.isSome_iff_exists.mp h
    exact valV_in hv
  · intro h
    cases hc : valV kvs k with
    | none => exact absurd h (valV_not hc)
    | some v => rfl
/-! ### a web as a graph -/
def Adj (ss : List Stl) (a b : Nat) : Prop := ∃ s ∈ ss, (s.u = a ∧ s.v = b) ∨ (s.v = a ∧ s.u = b)
theorem adj_dirs {ss : List Stl} {a b : Nat} : (a, b) ∈ ss.flatMap dirs ↔ Adj ss a b := by
  rw [List.mem_flatMap]
  constructor
  · rintro ⟨s, hs, h⟩
    simp only [dirs, List.mem_cons, Prod.mk.injEq, List.not_mem_nil, or_false] at h
    rcases h with ⟨rfl, rfl⟩ | ⟨rfl, rfl⟩
    · exact ⟨s, hs, .inl ⟨rfl, rfl⟩⟩
    · exact ⟨s, hs, .inr ⟨rfl, rfl⟩⟩
  · rintro ⟨s, hs, h⟩
    refine ⟨s, hs, ?_⟩
    rcases h with ⟨rfl, rfl⟩ | ⟨rfl, rfl⟩ <;> simp [dirs]
theorem Adj.symm {ss : List Stl} {a b : Nat} (h : Adj ss a b) : Adj ss b a := by
  obtain ⟨s, hs, h⟩ := h
  rcases h with ⟨h1, h2⟩ | ⟨h1, h2⟩
  · exact ⟨s, hs, .inr ⟨h2, h1⟩⟩
  · exact ⟨s, hs, .inl ⟨h2, h1⟩⟩
inductive Conn (ss : List Stl) : Nat → Nat → Prop
  | refl (a : Nat) : Conn ss a a
  | step {a b c : Nat} : Conn ss a b → Adj ss b c → Conn ss a c
theorem Conn.trans {ss : List Stl} {a b c : Nat} (h : Conn ss a b) (k : Conn ss b c) : Conn ss a c := by
  induction k with
  | refl => exact h
  | step _ e ih => exact .step ih e
theorem Conn.symm {ss : List Stl} {a b : Nat} (h : Conn ss a b) : Conn ss b a := by
  induction h with
  | refl => exact .refl _
  | step _ e ih => exact Conn.trans (.step (.refl _) e.symm) ih
theorem Adj.lt {n : Nat} {ss : List Stl} {a b : Nat} (hok : WOk n ss) (h : Adj ss a b) : a < n ∧ b < n := by
  obtain ⟨s, hs, h⟩ := h
  have so := hok.ok s hs
  have h1 := so.hu
  have h2 := so.hv
  rcases h with ⟨rfl, rfl⟩ | ⟨rfl, rfl⟩
  · exact ⟨h1, h2⟩
  · exact ⟨h2, h1⟩
theorem Conn.lt {n : Nat} {ss : List Stl} {a b : Nat} (hok : WOk n ss) (h : Conn ss a b) (ha : a < n) : b < n := by
  induction h with
  | refl => exact ha
  | step _ e _ => exact (e.lt hok).2
/-- what is closed and holds a holds all that is connected with a -/
theorem Conn.closed {ss : List Stl} {a b : Nat} {S : Nat → Prop} (h : Conn ss a b) (ha : S a) (hc : ∀ x y, S x → Adj ss x y → S y) : S b := by
  induction h with
  | refl => exact ha
  | step _ e ih => exact hc _ _ ih e
theorem nodup_len {α : Type} [BEq α] [LawfulBEq α] : ∀ {l m : List α}, l.Nodup → (∀ a ∈ l, a ∈ m) → l.length ≤ m.length
  | [], _, _, _ => Nat.zero_le _
  | a :: l, m, h, hs => by
    have hn := List.nodup_cons.mp h
    have ha := hs a (List.mem_cons_self ..)
    have h2 : ∀ b ∈ l, b ∈ m.erase a := fun b hb => by
      have : b ≠ a := fun z => hn.1 (z ▸ hb)
      exact (List.mem_erase_of_ne this).mpr (hs b (List.mem_cons_of_mem _ hb))
    have h3 := nodup_len hn.2 h2
    rw [List.length_erase_of_mem ha] at h3
    have h4 := List.length_pos_of_mem ha
    rw [List.length_cons]
    omega
theorem nodup_lt {l : List Nat} {n : Nat} (h : l.Nodup) (hl : ∀ a ∈ l, a < n) : l.length ≤ n := by
  have := nodup_len h (m := List.range n) fun a ha => List.mem_range.mpr (hl a ha)
  rwa [List.length_range] at this
end K43
set_option Elab.async false
set_option linter.all false
set_option maxRecDepth 100000
set_option maxHeartbeats 4000000
/-! k43, part F7: piece_of, pieces. -/
namespace K43
open PySem PySem.Spec L2 Evl C8

theorem upd_comm {H : Hp} {a b : Addr} {x y : HO} (h : a ≠ b) : upd (upd H a x) b y = upd (upd H b y) a x := by
  funext c
  unfold upd
  by_cases h1 : c = a
  · subst h1
    simp [h]
  · by_cases h2 : c = b
    · subst h2; simp [h1]
    · simp [h1, h2]
theorem ex_lock {H H1 : Hp} {d : Addr} {u x : HO} (e : Ex H H1) : Ex (upd H d u) (upd H1 d u) := fun c o h => by
  by_cases hc : c = d
  · subst hc
    rw [upd_same] at h ⊢
    exact h
  · rw [upd_ne hc] at h ⊢
    exact e _ _ h
def ofN (l : List Nat) : List Int := l.map fun (i : Nat) => (i : Int)
theorem mem_ofN {l : List Nat} {i : Nat} : (i : Int) ∈ ofN l ↔ i ∈ l := by
  unfold ofN
  rw [List.mem_map]
  constructor
  · rintro ⟨j, h1, h2⟩
    have : j = i := by omega
    exact this ▸ h1
  · intro h
    exact ⟨i, h, rfl⟩
theorem ofN_snoc {l : List Nat} {i : Nat} : ofN (l ++ [i]) = ofN l ++ [(i : Int)] := by simp [ofN]
theorem ofN_len {l : List Nat} : (ofN l).length = l.length := by simp [ofN]
theorem key_ofN {l : List Nat} {i : Nat} : (Sum.inl (i : Int) : Key) ∈ (ofN l).map Sum.inl ↔ i ∈ l := by
  rw [List.mem_map, ← mem_ofN]
  constructor
  · rintro ⟨j, h1, h2⟩
    cases h2
    exact h1
  · intro h
    exact ⟨_, h, rfl⟩
/-- a list that is an ofN by its members -/
theorem ofN_of : ∀ {ks : List Int}, (∀ k ∈ ks, ∃ i : Nat, k = (i : Int)) → ∃ l, ks = ofN l
  | [], _ => ⟨[], rfl⟩
  | k :: ks, h => by
    obtain ⟨i, rfl⟩ := h _ (List.mem_cons_self ..)
    obtain ⟨l, rfl⟩ := ofN_of fun k hk => h k (List.mem_cons_of_mem _ hk)
    exact ⟨i :: l, rfl⟩

structure PcI (ss : List Stl) (a : Nat) (H H' : Hp) (p F W : Addr) (ds : List Addr) (fs ws : List Nat) : Prop where
  ex : Ex H H'
  hp : H' p = some (.lst (ds.map V.ref))
  row : ∀ (i : Nat) (d : Addr), ds[i]? = some d → ∃ kvs, H' d = some (.dK kvs) ∧ kvs.length ≤ 100 ∧ ∀ k, k ∈ kvs.map (·.1) ↔ ∃ t : Nat, k = Sum.inl (t : Int) ∧ Adj ss i t
  hF : ∃ kvs : List (Key × V), H' F = some (.dK kvs) ∧ kvs.map (·.1) = (ofN fs).map Sum.inl
  hW : H' W = some (.lst ((ofN ws).map V.int))
  nF : H F = none
  nW : H W = none
  dF : F ∉ ds
  dW : W ≠ p
  nd : fs.Nodup
  fc : ∀ b ∈ fs, Conn ss a b
  ain : a ∈ fs
  wf : ∀ b ∈ ws, b ∈ fs
section
variable {ss : List Stl} {a n : Nat} {H H' H'' : Hp} {p F W : Addr} {ds : List Addr} {fs ws : List Nat}
theorem PcI.up (h : PcI ss a H H' p F W ds fs ws) (e : Ex H' H'') : PcI ss a H H'' p F W ds fs ws where
  ex := h.ex.trans e
  hp := e _ _ h.hp
  row := fun i d hi => by
    obtain ⟨kvs, h1, h2, h3⟩ := h.row i d hi
    exact ⟨kvs, e _ _ h1, h2, h3⟩
  hF := by
    obtain ⟨kvs, h1, h2⟩ := h.hF
    exact ⟨kvs, e _ _ h1, h2⟩
  hW := e _ _ h.hW
  nF := h.nF
  nW := h.nW
  dF := h.dF
  dW := h.dW
  nd := h.nd
  fc := h.fc
  ain := h.ain
  wf := h.wf
theorem PcI.neFp (h : PcI ss a H H' p F W ds fs ws) : F ≠ p := by
  obtain ⟨kvs, h1, _⟩ := h.hF
  exact ne_of h1 h.hp (by intro z; cases z)
theorem PcI.neFW (h : PcI ss a H H' p F W ds fs ws) : F ≠ W := by
  obtain ⟨kvs, h1, _⟩ := h.hF
  exact ne_of h1 h.hW (by intro z; cases z)
theorem PcI.neWd (h : PcI ss a H H' p F W ds fs ws) {d : Addr} {i : Nat} (hd : ds[i]? = some d) : W ≠ d := by
  obtain ⟨kvs, h1, _⟩ := h.row _ _ hd
  exact ne_of h.hW h1 (by intro z; cases z)
theorem PcI.neFd (h : PcI ss a H H' p F W ds fs ws) {d : Addr} {i : Nat} (hd : ds[i]? = some d) : F ≠ d := fun z => h.dF (z ▸ List.mem_of_getElem? hd)
theorem PcI.put (h : PcI ss a H H' p F W ds fs ws) {kvs : List (Key × V)} {t : Nat} {v : V} (hF : H' F = some (.dK kvs)) (ht : t ∉ fs) (hc : Conn ss a t) : PcI ss a H (upd H' F (.dK (putK kvs (Sum.inl (t : Int)) v))) p F W ds (fs ++ [t]) ws where
  ex := Ex.mut h.ex h.nF
  hp := by rw [upd_ne h.neFp.symm]; exact h.hp
  row := fun i d hi => by
    obtain ⟨kvs, h1, h2, h3⟩ := h.row i d hi
    exact ⟨kvs, by rw [upd_ne (h.neFd hi).symm]; exact h1, h2, h3⟩
  hF := by
    obtain ⟨kvs2, h1, h2⟩ := h.hF
    rw [hF] at h1
    cases h1
    refine ⟨_, upd_same, ?_⟩
    rw [putK_new, List.map_append, h2, ofN_snoc, List.map_append]
    · rfl
    · rw [h2, key_ofN]; exact ht
  hW := by rw [upd_ne h.neFW.symm]; exact h.hW
  nF := h.nF
  nW := h.nW
  dF := h.dF
  dW := h.dW
  nd := nd_snoc h.nd ht
  fc := fun b hb => by
    rcases List.mem_append.mp hb with m | m
    · exact h.fc b m
    · rw [List.mem_singleton.mp m]; exact hc
  ain := List.mem_append_left _ h.ain
  wf := fun b hb => List.mem_append_left _ (h.wf b hb)
theorem PcI.setW (h : PcI ss a H H' p F W ds fs ws) {ws' : List Nat} (hw : ∀ b ∈ ws', b ∈ fs) : PcI ss a H (upd H' W (.lst ((ofN ws').map V.int))) p F W ds fs ws' where
  ex := Ex.mut h.ex h.nW
  hp := by rw [upd_ne h.dW.symm]; exact h.hp
  row := fun i d hi => by
    obtain ⟨kvs, h1, h2, h3⟩ := h.row i d hi
    exact ⟨kvs, by rw [upd_ne (h.neWd hi).symm]; exact h1, h2, h3⟩
  hF := by
    obtain ⟨kvs2, h1, h2⟩ := h.hF
    exact ⟨kvs2, by rw [upd_ne h.neFW]; exact h1, h2⟩
  hW := upd_same
  nF := h.nF
  nW := h.nW
  dF := h.dF
  dW := h.dW
  nd := h.nd
  fc := h.fc
  ain := h.ain
  wf := hw
end
/-- sorted(d), tuple(l) -/
def pPerm (K : PySem.W.Frag) (f : List PyData → PyData) (fs : List Nat) : PD := ⟨fun v H => ∃ ys : List Nat, ys.Perm fs ∧ Dp K H v (f ((ofN ys).map .int)), fun e ⟨ys, h, d⟩ => ⟨ys, h, Dp.up e d⟩⟩
section
variable {K : PySem.W.Frag} {H : Hp}
theorem cp_sortedDI {F : Addr} {kvs : List (Key × V)} {fs : List Nat} (hF : H F = some (.dK kvs)) (hk : kvs.map (·.1) = (ofN fs).map Sum.inl) : CP rSortedDI [pV (.ref F)] H (pPerm K .list fs) := fun vs H1 e ps Q q => by
  obtain ⟨v, r, rfl, p, er⟩ := ps
  cases er
  cases p
  refine ⟨F, kvs, ofN fs, rfl, .inl (e _ _ hF), hk, fun ys p hp _ hn => ?_⟩
  obtain ⟨l, rfl⟩ := ofN_of (ks := ys) fun k hk => by
    have := hp.mem_iff.mp hk
    obtain ⟨i, _, rfl⟩ := List.mem_map.mp this
    exact ⟨i, rfl⟩
  refine q _ _ (Ex.new hn) ⟨l, ?_, .lst (SqL.of upd_same) ints_DpAll⟩
  rw [List.perm_iff_count] at hp ⊢
  intro i
  have h2 := hp (i : Int)
  have key : ∀ m : List Nat, (ofN m).count (i : Int) = m.count i := by
    intro m
    induction m with
    | nil => rfl
    | cons x m ih =>
      show ((x : Int) :: ofN m).count (i : Int) = _
      rw [List.count_cons, List.count_cons, ih]
      congr 1
      by_cases hx : x = i
      · subst hx; simp
      · have : ¬ (x : Int) = (i : Int) := by omega
        simp [hx, this]
  rw [key, key] at h2
  exact h2
theorem cp_tuplePerm {fs : List Nat} : CP (fun xs H Q => ∃ p ys, xs = [.ref p] ∧ ((SqL K H p ys ∧ ∀ l, H l = none → Q (.ref l) (upd H l (.tup ys))) ∨ (SqT K H p ys ∧ Q (.ref p) H))) [pPerm K .list fs] H (pPerm K .tuple fs) := fun vs H1 _ ps Q q => by
  obtain ⟨v, r, rfl, p, e⟩ := ps
  cases e
  obtain ⟨ys, h1, d⟩ := p
  obtain ⟨a, xs, rfl, h2, h3⟩ := Dp.lst_inv d
  exact ⟨a, xs, rfl, .inl ⟨h2, fun l hl => q _ _ (Ex.new hl) ⟨ys, h1, .tup (SqT.of upd_same) (DpAll.up (Ex.new hl) h3)⟩⟩⟩
end
/-- the wares connected with a -/
def pPiece (K : PySem.W.Frag) (ss : List Stl) (a : Nat) : PD := ⟨fun v H => ∃ l : List Nat, l.Nodup ∧ (∀ b, b ∈ l ↔ Conn ss a b) ∧ Dp K H v (.tuple ((ofN l).map .int)), fun e ⟨l, n, h, d⟩ => ⟨l, n, h, Dp.up e d⟩⟩
section
variable {P : Program} {w : World} {K : PySem.W.Frag} {mg : Str → Option Value} {base : Heap} {cE cW : Addr} {σ : L2.St} {H : Hp} {te tx : TE}
def spPiece (K : PySem.W.Frag) (cW : Addr) : Sp := spF (fun (x : (Nat × List Stl) × Nat) => [pW K cW x.1.1 x.1.2, pI x.2]) (fun x => pPiece K x.1.2 x.2) (fun x => WOk x.1.1 x.1.2 ∧ x.2 < x.1.1)
theorem ep_roots {n : Nat} {ss : List Stl} {E : XK} {ta : TA} (hok : WOk n ss) (ha : EvPA ta σ H [pW K cW n ss]) : EvP (tCall (spRoots K cE cW) [] E ta) σ H (pRows cE n H (ss.flatMap dirs)) := fun H1 e Q q =>
  ha H1 e _ fun vs H2 e2 ps => by
    obtain ⟨v, r, rfl, p, er⟩ := ps
    cases er
    refine ⟨n, ss, v, hok, rfl, p, fun p ds H' r => q _ _ (e2.trans r.ex) ⟨p, ds, rfl, ?_⟩⟩
    have e02 := e.trans e2
    exact ⟨e02.trans r.ex, fresh_back e02 r.fr, r.hp, r.len, r.nd, fun d hd => fresh_back e02 (r.fd d hd), r.row⟩
theorem ok24 (T : Txt K mg cE cW) : Cal P w K mg base 6 "piece_of" (spPiece K cW) [] := by
  have sc : FnScope ["web", "ware", "rows", "found", "waiting", "there"] ["web", "ware"] (defScope (top 24)) := ⟨rfl, rfl, rfl, by decide +kernel, rfl, by decide +kernel, by decide +kernel⟩
  refine T.d24.cal sc (spF_len fun _ => rfl) fun cdv f A outer s H vs Q E hr h => ?_
  obtain ⟨⟨⟨n, ss⟩, a⟩, ⟨hok, ha⟩, ⟨v, rs, rfl, pw, v2, rs2, rfl, p2, e⟩, k⟩ := h
  cases e
  cases p2
  replace hok : WOk n ss := hok
  replace ha : a < n := ha
  replace pw : (pW K cW n ss).p v H := pw
  have hu := hu_of hr
  have hu64 := hr.units
  refine ⟨_, pss_cons (ps_set (i := 2) sc.nd rfl (.inl rfl) (pe_c (ok20 T) hr (by decide) rfl (pa_cons (pv 0) pa_nil)))
    (pss_cons (ps_set (i := 3) sc.nd rfl (.inl rfl) (pe_disp (pps_cons (pv 1) pe_bl pps_nil) rfl rfl (by simp) (by simp)))
    (pss_cons (ps_set (i := 4) sc.nd rfl (.inl rfl) (pe_lst (pa_cons (pv 1) pa_nil)))
    (pss_cons (ps_while PassesOwn.never (pt_cmpR (op_neD hu64) (pv 4) (pe_lst pa_nil) (nomark _))
      (pss_one (ps_lock (ps_for PassesOwn.never rfl (pi_keys (pe_ix ix_list (pv 2) (pe_bm0 PySem.F.plainAttrs_list PySem.F.slot_list_pop PySem.F.type_list_pop mt_pop (pv 4)) (fun _ _ => rfl))) (pg_name (i := 5) sc.nd rfl (.inl rfl))
        (pss_one (ps_if (pt_cmp (pc_dnotin hu (pv 5) (pv 3))) (pss_cons (ps_dput hu (pv 3) (pv 5) pe_bl rfl) (pss_one (ps_expr (pe_bm PySem.F.plainAttrs_list PySem.F.slot_list_append PySem.F.type_list_append mt_append (pv 4) (pa_cons (pv 5) pa_nil))))) pss_nil))))))
    (pss_one (ps_ret (pe_callTy call_tuple_of (by rfl) T.b_tuple (by decide +kernel) (pa_cons (pe_callB (call_sortedDI rfl) (by rfl) T.b_sorted (by decide +kernel) (pa_cons (pv 3) pa_nil)) pa_nil))))))), ?_⟩
  refine p_asg (ep_roots (cE := cE) hok (ea_cons (ep_var rfl pw) ea_nil)) fun v1 H1 e1 p1 => ?_
  obtain ⟨p, ds, rfl, rw1⟩ := p1
  refine p_asg (ep_disp1 (ep_vi rfl) ep_c) fun v2 H2 e2 p2 => ?_
  obtain ⟨F, rfl, nF, hF⟩ := p2
  refine p_asg (ep_lstN (Ps := [pI (a : Nat)]) (ea_cons (ep_vi rfl) ea_nil) (by simp)) fun v3 H3 e3 p3 => ?_
  obtain ⟨W, xs3, rfl, nW, hW, w1, _, rfl, pw1, er⟩ := p3
  cases er
  cases pw1
  have e02 := e1.trans e2
  have e03 := e02.trans e3
  have i0 : PcI ss a H H3 p F W ds [a] [a] := by
    refine ⟨e03, e3 _ _ (e2 _ _ rw1.hp), fun i d hi => ?_, ⟨_, e3 _ _ hF, rfl⟩, hW, fresh_back e1 nF, fresh_back e02 nW, fun m => ?_, ?_, by simp, ?_, by simp, by simp⟩
    · obtain ⟨kvs, h1, h2, h3, _⟩ := rw1.row i d hi
      refine ⟨kvs, e3 _ _ (e2 _ _ h1), ?_, fun k => ?_⟩
      · have h4 := flat_len ss
        have h5 := hok.len
        omega
      · rw [h3]
        constructor
        · rintro ⟨t, h4, h5⟩; exact ⟨t, h4, adj_dirs.mp h5⟩
        · rintro ⟨t, h4, h5⟩; exact ⟨t, h4, adj_dirs.mpr h5⟩
    · obtain ⟨i, hi⟩ := List.getElem?_of_mem m
      obtain ⟨kvs, h1, _⟩ := rw1.row i F hi
      rw [h1] at nF
      cases nF
    · rintro rfl
      rw [e2 _ _ rw1.hp] at nW
      cases nW
    · intro b hb
      rw [List.mem_singleton.mp hb]
      exact .refl a
  have len8 : ∀ {H' : Hp} {fs ws : List Nat}, PcI ss a H H' p F W ds fs ws → fs.length ≤ 8 := fun h => by
    have := nodup_lt h.nd fun b hb => (h.fc b hb).lt hok ha
    have := hok.n8
    omega
  refine q_while (fun m σ' H' => ∃ fs ws x5, σ' = [some v, some (.int (a : Nat)), some (.ref p), some (.ref F), some (.ref W), x5] ∧ PcI ss a H H' p F W ds fs ws ∧ (∀ x ∈ fs, x ∉ ws → ∀ y, Adj ss x y → y ∈ fs) ∧ 2 * (8 - fs.length) + ws.length ≤ m ∧ m ≤ 15) 15 ⟨[a], [a], none, rfl, i0, fun x hx hn => absurd hx hn, by simp, by simp⟩ ?_
  rintro m σ' H4 ⟨fs, ws, x5, rfl, i4, cl, hm, hm15⟩
  have dW : (pD K (.list ((ofN ws).map .int))).p (.ref W) H4 := .lst (SqL.of i4.hW) ints_DpAll
  refine ⟨!(ws.isEmpty), pt_test (ep_bis (ep_op (ep_var rfl dW) ep_nilL (rp_neD (shaped_ints _) shaped_nil)) ?_), fun hb H5 e5 => ?_, fun hb H5 e5 => ?_⟩
  · rw [eqv_nil]
    cases ws <;> rfl
  · -- one turn
    have hne : ws ≠ [] := by
      rintro rfl
      cases hb
    obtain ⟨ws0, here, rfl⟩ : ∃ ws0 here, ws = ws0 ++ [here] := ⟨ws.dropLast, ws.getLast hne, (List.dropLast_concat_getLast hne).symm⟩
    have i5 := i4.up e5
    have hin := i5.wf here (by simp)
    have hlt := (i5.fc here hin).lt hok ha
    obtain ⟨d, hd⟩ : ∃ d, ds[here]? = some d := by
      have : here < ds.length := by rw [rw1.len]; exact hlt
      exact ⟨ds[here], by simp [this]⟩
    obtain ⟨kvs, hk1, hk2, hk3⟩ := i5.row here d hd
    refine ⟨_, fun σ2 H2 h => h, d, .dK kvs, hk1, trivial, fun od => ?_⟩
    have ndp : p ≠ d := ne_of i5.hp hk1 (by intro z; cases z)
    have nWd := i5.neWd hd
    have nFd := i5.neFd hd
    -- rows[waiting.pop()]
    have hp6 : (upd H5 d (.frz od (.dK kvs))) p = some (.lst (ds.map V.ref)) := by rw [upd_ne ndp]; exact i5.hp
    have hW6 : (upd H5 d (.frz od (.dK kvs))) W = some (.lst ((ofN ws0).map V.int ++ [V.int (here : Nat)])) := by rw [upd_ne nWd, i5.hW, ofN_snoc, List.map_append]; rfl
    refine ⟨.ref p, rfl, q_pop hW6 (ep_vv rfl) fun H6 e6 => ?_⟩
    have i6 : PcI ss a H (upd H6 d (.dK kvs)) p F W ds fs (ws0 ++ [here]) := by
      refine i5.up fun c o hc => ?_
      by_cases h : c = d
      · subst h
        rw [hk1] at hc
        rw [upd_same]
        exact hc
      · rw [upd_ne h]
        exact e6 _ _ (by rw [upd_ne h]; exact hc)
    have hd6 : H6 d = some (.frz od (.dK kvs)) := e6 _ _ upd_same
    have i7 := i6.setW (ws' := ws0) fun b hb => i6.wf b (List.mem_append_left _ hb)
    rw [← upd_comm nWd] at i7
    have hp7 : (upd H6 W (.lst ((ofN ws0).map V.int))) p = some (.lst (ds.map V.ref)) := by rw [upd_ne i6.dW.symm]; exact e6 _ _ hp6
    refine ⟨p, ds.map V.ref, (here : Nat), .ref d, rfl, rfl, SqL.of hp7, atI_nat (by rw [List.getElem?_map, hd]; rfl), d, od, rfl, .inl ⟨kvs, by rw [upd_ne nWd.symm]; exact hd6, ?_⟩⟩
    refine for_it walk_keys (fun i σ' H' => ∃ fs2 ws2 x5, σ' = [some v, some (.int (a : Nat)), some (.ref p), some (.ref F), some (.ref W), x5] ∧ H' d = some (.frz od (.dK kvs)) ∧ PcI ss a H (upd H' d (.dK kvs)) p F W ds fs2 ws2 ∧
      (∀ x ∈ fs2, x ∉ ws2 → x ≠ here → ∀ y, Adj ss x y → y ∈ fs2) ∧ (∀ j k v, j < i → kvs[j]? = some (k, v) → ∃ t : Nat, k = Sum.inl (t : Int) ∧ t ∈ fs2) ∧ 2 * (8 - fs2.length) + ws2.length + 1 ≤ m) ?_ ?_ ?_ ?_
    · refine ⟨fs, ws0, x5, rfl, by rw [upd_ne nWd.symm]; exact hd6, i7, fun x hx hn hne => cl x hx ?_, fun j k v hj => absurd hj (Nat.not_lt_zero _), ?_⟩
      · intro hm
        rcases List.mem_append.mp hm with h | h
        · exact hn h
        · exact hne (List.mem_singleton.mp h)
      · rw [List.length_append, List.length_singleton] at hm
        omega
    · rintro i σ8 H8 _ ⟨_, _, _, _, h, _⟩
      exact h
    · rintro i x σ8 H8 H9 hi ⟨fs2, ws2, y5, rfl, hd8, i8, cl8, ks8, hm8⟩ ⟨rfl, k8, v8, hk8, rfl⟩
      have hmem : k8 ∈ kvs.map (·.1) := List.mem_map.mpr ⟨_, List.mem_of_getElem? hk8, rfl⟩
      obtain ⟨t, rfl, hadj⟩ := (hk3 k8).mp hmem
      obtain ⟨fk, hF8, hfk⟩ := i8.hF
      rw [upd_ne nFd] at hF8
      have hfm : (valV fk (Sum.inl (t : Int))).isSome = decide (t ∈ fs2) := by
        rw [Bool.eq_iff_iff, valV_some, hfk, key_ofN, decide_eq_true_iff]
      have next : ∀ {fs3 ws3 : List Nat} {H' : Hp}, (∀ b ∈ fs2, b ∈ fs3) → t ∈ fs3 → H' d = some (.frz od (.dK kvs)) → PcI ss a H (upd H' d (.dK kvs)) p F W ds fs3 ws3 → (∀ x ∈ fs3, x ∉ ws3 → x ≠ here → ∀ y, Adj ss x y → y ∈ fs3) → 2 * (8 - fs3.length) + ws3.length + 1 ≤ m →
          ∃ fs2 ws2 x5, [some v, some (.int (a : Nat)), some (.ref p), some (.ref F), some (.ref W), some (V.int t)] = [some v, some (.int (a : Nat)), some (.ref p), some (.ref F), some (.ref W), x5] ∧ H' d = some (.frz od (.dK kvs)) ∧ PcI ss a H (upd H' d (.dK kvs)) p F W ds fs2 ws2 ∧
      (∀ x ∈ fs2, x ∉ ws2 → x ≠ here → ∀ y, Adj ss x y → y ∈ fs2) ∧ (∀ j k v, j < i + 1 → kvs[j]? = some (k, v) → ∃ t : Nat, k = Sum.inl (t : Int) ∧ t ∈ fs2) ∧ 2 * (8 - fs2.length) + ws2.length + 1 ≤ m := by
        intro fs3 ws3 H' hsub ht hd' hI hcl hm3
        refine ⟨fs3, ws3, _, rfl, hd', hI, hcl, fun j k v hj hk => ?_, hm3⟩
        by_cases hji : j < i
        · obtain ⟨t', h1, h2⟩ := ks8 j k v hji hk
          exact ⟨t', h1, hsub _ h2⟩
        · have : j = i := by omega
          subst this
          rw [hk8] at hk
          cases hk
          exact ⟨t, rfl, ht⟩
      refine s_when (et_dnotin (ep_vi rfl) (ep_vv rfl) hF8) (fun hb9 H9 e9 => ?_) (fun hb9 H9 e9 => ?_)
      · have htn : t ∉ fs2 := by
          rw [hfm] at hb9
          simpa using hb9
        have i9 := i8.up (ex_lock (u := .dK kvs) (x := .dK kvs) e9)
        have hF9 := e9 _ _ hF8
        have hlk : fk.length ≤ 8 := by
          have h1 := congrArg List.length hfk
          rw [List.length_map, List.length_map, ofN_len] at h1
          have := len8 i9
          omega
        refine p_dput (ep_c (v := .bl true)) (ep_vv rfl) (ep_vi rfl) hF9 (by omega) fun vb HA eA pA => ?_
        have iA := i9.up (ex_lock (u := .dK kvs) (x := .dK kvs) eA)
        have hFA := eA _ _ hF9
        have iB := iA.put (kvs := fk) (t := t) (v := vb) (by rw [upd_ne nFd]; exact hFA) htn ((i5.fc here hin).step hadj)
        rw [upd_comm nFd.symm] at iB
        have hdB : (upd HA F (.dK (putK fk (Sum.inl (t : Int)) vb))) d = some (.frz od (.dK kvs)) := by rw [upd_ne nFd.symm]; exact eA _ _ (e9 _ _ hd8)
        have hWB := iB.hW
        rw [upd_ne nWd] at hWB
        have lB := len8 iB
        have hlW : ((ofN ws2).map V.int).length < 100000 := by
          rw [List.length_map, ofN_len]
          omega
        refine p_app1 hWB (ep_vv rfl) (ep_vi (n := (t : Int)) rfl) hlW fun vt HC eC pC => ?_
        obtain rfl : vt = V.int (t : Int) := pC
        have iC := (iB.up (ex_lock (u := .dK kvs) (x := .dK kvs) eC)).setW (ws' := ws2 ++ [t]) fun b hb => by
          rcases List.mem_append.mp hb with h | h
          · exact List.mem_append_left _ (i8.wf b h)
          · rw [List.mem_singleton.mp h]; simp
        rw [← upd_comm nWd, ofN_snoc, List.map_append] at iC
        refine next (fs3 := fs2 ++ [t]) (ws3 := ws2 ++ [t]) (fun b hb => List.mem_append_left _ hb) (by simp) (by rw [upd_ne nWd.symm]; exact eC _ _ hdB) iC ?_ ?_
        · intro x hx hn hne y hxy
          rcases List.mem_append.mp hx with h | h
          · exact List.mem_append_left _ (cl8 x h (fun z => hn (List.mem_append_left _ z)) hne y hxy)
          · exact absurd (List.mem_append_right _ h) hn
        · rw [List.length_append, List.length_append, List.length_singleton]
          rw [List.length_append, List.length_singleton] at lB
          omega
      · refine next (fun _ h => h) ?_ (e9 _ _ hd8) (i8.up (ex_lock (u := .dK kvs) (x := .dK kvs) e9)) cl8 hm8
        rw [hfm] at hb9
        simpa using hb9
    · rintro σ8 H8 ⟨fs2, ws2, y5, rfl, hd8, i8, cl8, ks8, hm8⟩
      refine ⟨hd8, 2 * (8 - fs2.length) + ws2.length, by omega, fs2, ws2, y5, rfl, i8, fun x hx hn y hxy => ?_, Nat.le_refl _, by omega⟩
      by_cases hxh : x = here
      · subst hxh
        obtain ⟨kv, hkv, e⟩ := List.mem_map.mp ((hk3 (Sum.inl (y : Int))).mpr ⟨y, rfl, hxy⟩)
        obtain ⟨j, hj⟩ := List.getElem?_of_mem hkv
        obtain ⟨t, h1, h2⟩ := ks8 j kv.1 kv.2 (List.getElem?_eq_some_iff.mp hj).1 hj
        rw [e] at h1
        cases h1
        exact h2
      · exact cl8 x hx hn hxh y hxy
  · -- no ware waits
    have hne : ws = [] := by
      cases ws with
      | nil => rfl
      | cons => cases hb
    subst hne
    obtain ⟨kvs, h1, h2⟩ := (i4.up e5).hF
    refine p_ret ((ep_cb (ea_cons (ep_cb (ea_cons (ep_vv rfl) ea_nil) (cp_sortedDI h1 h2)) ea_nil) cp_tuplePerm)) fun v6 H6 e6 p6 => k _ _ (((i4.up e5).up e6).ex) ?_
    obtain ⟨ys, hy, hd⟩ := p6
    refine ⟨ys, hy.symm.nodup i4.nd, fun b => ?_, hd⟩
    rw [hy.mem_iff]
    exact ⟨i4.fc b, fun hc => hc.closed (S := fun b => b ∈ fs) i4.ain fun x y hx => cl x hx (by simp) y⟩
end
end K43
set_option Elab.async false
set_option linter.all false
set_option maxRecDepth 100000
set_option maxHeartbeats 4000000
/-! k43, part F8: pieces. -/
namespace K43
open PySem PySem.Spec L2 Evl C8
/-- the parts of a web, all wares below i within -/
structure Parts (ss : List Stl) (n i : Nat) (ls : List (List Nat)) : Prop where
  comp : ∀ l ∈ ls, ∃ a, a < n ∧ ∀ b, b ∈ l ↔ Conn ss a b
  apart : ls.Pairwise fun l m => ∀ a ∈ l, ∀ b ∈ m, ¬ Conn ss a b
  all : ∀ w, w < i → ∃ l ∈ ls, w ∈ l
theorem Parts.skip {ss : List Stl} {n i : Nat} {ls : List (List Nat)} (h : Parts ss n i ls) (hi : ∃ l ∈ ls, i ∈ l) : Parts ss n (i + 1) ls :=
  ⟨h.comp, h.apart, fun w hw => by
    by_cases e : w = i
    · exact e ▸ hi
    · exact h.all w (by omega)⟩
theorem Parts.put {ss : List Stl} {n i : Nat} {ls : List (List Nat)} {l : List Nat} (h : Parts ss n i ls) (hi : i < n) (hn : ∀ m ∈ ls, i ∉ m) (hl : ∀ b, b ∈ l ↔ Conn ss i b) : Parts ss n (i + 1) (ls ++ [l]) where
  comp := fun m hm => by
    rcases List.mem_append.mp hm with q | q
    · exact h.comp m q
    · rw [List.mem_singleton.mp q]
      exact ⟨i, hi, hl⟩
  apart := by
    rw [List.pairwise_append]
    refine ⟨h.apart, List.pairwise_singleton _ _, fun m hm l' hl' a ha b hb hc => ?_⟩
    rw [List.mem_singleton.mp hl'] at hb
    obtain ⟨c, _, hcm⟩ := h.comp m hm
    exact hn m hm ((hcm i).mpr (((hcm a).mp ha |>.trans hc).trans ((hl b).mp hb).symm))
  all := fun w hw => by
    by_cases e : w = i
    · subst e
      exact ⟨l, by simp, (hl w).mpr (.refl w)⟩
    · obtain ⟨m, hm, q⟩ := h.all w (by omega)
      exact ⟨m, List.mem_append_left _ hm, q⟩
theorem Parts.len {ss : List Stl} {n i : Nat} {ls : List (List Nat)} (h : Parts ss n i ls) (hok : WOk n ss) : ls.length ≤ n := by
  -- the first of each is its own
  have hd : ∀ l ∈ ls, ∃ a, a ∈ l := fun l hl => by
    obtain ⟨a, _, q⟩ := h.comp l hl
    exact ⟨a, (q a).mpr (.refl a)⟩
  have key : ∀ ls : List (List Nat), (∀ l ∈ ls, ∃ a, a < n ∧ ∀ b, b ∈ l ↔ Conn ss a b) → (ls.Pairwise fun l m => ∀ a ∈ l, ∀ b ∈ m, ¬ Conn ss a b) → ∃ hs : List Nat, hs.length = ls.length ∧ hs.Nodup ∧ (∀ x ∈ hs, x < n ∧ ∃ l ∈ ls, x ∈ l) := by
    intro ls
    induction ls with
    | nil => exact fun _ _ => ⟨[], rfl, List.nodup_nil, by simp⟩
    | cons l ls ih =>
      intro hc hp
      rw [List.pairwise_cons] at hp
      obtain ⟨hs, h1, h2, h3⟩ := ih (fun m hm => hc m (List.mem_cons_of_mem _ hm)) hp.2
      obtain ⟨a, ha, hq⟩ := hc l (List.mem_cons_self ..)
      have hal : a ∈ l := (hq a).mpr (.refl a)
      refine ⟨a :: hs, by simp [h1], List.nodup_cons.mpr ⟨fun m => ?_, h2⟩, fun x hx => ?_⟩
      · obtain ⟨_, m', hm', q⟩ := h3 a m
        exact hp.1 m' hm' a hal a q (.refl a)
      · rcases List.mem_cons.mp hx with rfl | hx
        · exact ⟨ha, l, List.mem_cons_self .., hal⟩
        · obtain ⟨h4, m', hm', q⟩ := h3 x hx
          exact ⟨h4, m', List.mem_cons_of_mem _ hm', q⟩
  obtain ⟨hs, h1, h2, h3⟩ := key ls h.comp h.apart
  have := nodup_lt h2 fun x hx => (h3 x hx).1
  omega
theorem Parts.flen {ss : List Stl} {n i : Nat} {ls : List (List Nat)} (h : Parts ss n i ls) (hok : WOk n ss) {m : Nat} (hm : ∀ l ∈ ls, l.length ≤ m) : ls.flatten.length ≤ n * m := by
  have h1 := h.len hok
  have h2 : ∀ ls : List (List Nat), (∀ l ∈ ls, l.length ≤ m) → ls.flatten.length ≤ ls.length * m := by
    intro ls
    induction ls with
    | nil => intro _; simp
    | cons l ls ih =>
      intro q
      have e1 := ih fun l hl => q l (List.mem_cons_of_mem _ hl)
      have e2 := q l (List.mem_cons_self ..)
      rw [List.flatten_cons, List.length_append, List.length_cons, Nat.succ_mul]
      omega
  exact Nat.le_trans (h2 ls hm) (Nat.mul_le_mul_right _ h1)
section
variable {K : PySem.W.Frag} {σ : L2.St} {H : Hp} {tl : TE} {P : PD}
theorem ep_last {l : Addr} {xs : List V} {v : V} (hl : H l = some (.lst (xs ++ [v]))) (h : EvP tl σ H (pV (.ref l))) (p : P.p v H) : EvP (tOp (rIxL K) tl (tUn (rU fun i => .int (-i)) (tC (.int 1)))) σ H P :=
  ep_op h (ep_un ep_i up_neg) fun x y H1 e px py Q q => by
    obtain rfl : x = .ref l := px
    obtain rfl : y = .int (-1) := py
    refine ⟨l, xs ++ [v], -1, v, rfl, rfl, SqL.of (e _ _ hl), ?_, q v H1 (Ex.refl H1) (PD.up _ e p)⟩
    unfold atI ixN
    have e1 : ¬ (0 : Int) ≤ -1 := by decide
    have e2 : -(((xs ++ [v]).length : Nat) : Int) ≤ -1 := by rw [List.length_append, List.length_singleton]; omega
    rw [if_neg e1, if_pos e2]
    have e3 : (-1 + (((xs ++ [v]).length : Nat) : Int)).toNat = xs.length := by rw [List.length_append, List.length_singleton]; omega
    rw [e3]
    simp
end
def pieceD (l : List Nat) : PyData := .tuple ((ofN l).map .int)
theorem noList_ints : ∀ l : List Int, noListAll (l.map .int) = true
  | [] => by simp [noListAll]
  | x :: l => by rw [List.map_cons, noListAll, noList_ints l]; simp [noList]
theorem noList_piece (l : List Nat) : noList (pieceD l) = true := by simp [pieceD, noList, noList_ints]
theorem noList_pieces : ∀ ls : List (List Nat), noListAll (ls.map pieceD) = true
  | [] => by simp [noListAll]
  | l :: ls => by rw [List.map_cons, noListAll, noList_pieces ls, noList_piece]; rfl
section
variable {P : Program} {w : World} {K : PySem.W.Frag} {mg : Str → Option Value} {base : Heap} {cE cW : Addr} {σ : L2.St} {H : Hp} {te tx : TE}
def spPieces (K : PySem.W.Frag) (cW : Addr) : Sp := fun vs H Q _ => ∃ n ss v, WOk n ss ∧ vs = [v] ∧ (pW K cW n ss).p v H ∧ ∀ a xs ls H', Ex H H' → H a = none → H' a = some (.lst xs) → DpAll K H' xs (ls.map pieceD) → Parts ss n n ls → Q (.ref a) H'
theorem ok25 (T : Txt K mg cE cW) : Cal P w K mg base 7 "pieces" (spPieces K cW) [] := by
  have sc : FnScope ["web", "found", "known", "ware"] ["web"] (defScope (top 25)) := ⟨rfl, rfl, rfl, by decide +kernel, rfl, by decide +kernel, by decide +kernel⟩
  refine T.d25.cal sc (fun vs H Q E h => by obtain ⟨n, ss, v, _, rfl, _⟩ := h; rfl) fun cdv f A outer s H vs Q E hr h => ?_
  obtain ⟨n, ss, v, hok, rfl, pw, k⟩ := h
  have hu := hu_of hr
  have n8 := hok.n8
  refine ⟨_, pss_cons (ps_set (i := 1) sc.nd rfl (.inl rfl) (pe_lst pa_nil))
    (pss_cons (ps_set (i := 2) sc.nd rfl (.inl rfl) (pe_tup pa_nil))
    (pss_cons (ps_for PassesOwn.never rfl (pi_range1 rfl T.b_range (pa_cons (pe_fld (pv 0) rfl) pa_nil)) (pg_name (i := 3) sc.nd rfl (.inl rfl))
      (pss_one (ps_if (pt_cmpR op_notIn_seq (pv 3) (pv 2) rfl) (pss_cons (ps_expr (pe_bm PySem.F.plainAttrs_list PySem.F.slot_list_append PySem.F.type_list_append mt_append (pv 1) (pa_cons (pe_c (ok24 T) hr (by decide) rfl (pa_cons (pv 0) (pa_cons (pv 3) pa_nil))) pa_nil)))
        (pss_one (ps_set (i := 2) sc.nd rfl (.inl rfl) (pe_op op_catA (pv 2) (pe_ix ix_list (pv 1) (pe_un un_neg pe_int) (fun _ _ => rfl)))))) pss_nil)))
    (pss_one (ps_ret (pv 1))))), ?_⟩
  refine p_asg (ep_lstN (Ps := []) ea_nil (by simp)) fun v1 H1 e1 p1 => ?_
  obtain ⟨Fa, _, rfl, nF, hF, rfl⟩ := p1
  refine p_asg (ep_nilT (K := K)) fun v2 H2 e2 p2 => ?_
  have e02 := e1.trans e2
  obtain ⟨tw, xw, hw⟩ := id pw
  refine p_forR (n := n) (ea_cons (ep_wares T rfl (hw.up e02)) ea_nil) (by omega) (fun i σ' H' => ∃ ls xs v2 a3, σ' = [some v, some (.ref Fa), some v2, a3] ∧ Ex H H' ∧ H' Fa = some (.lst xs) ∧ DpAll K H' xs (ls.map pieceD) ∧ Parts ss n i ls ∧ (∀ l ∈ ls, l.length ≤ 8) ∧ Dp K H' v2 (pieceD ls.flatten))
    (fun H3 e3 => ⟨[], [], v2, none, rfl, e02.trans e3, e3 _ _ (e2 _ _ hF), .nil, ⟨by simp, .nil, fun w hw => absurd hw (Nat.not_lt_zero _)⟩, by simp, Dp.up e3 p2⟩) ?_ ?_
  · rintro i σ' H3 hi ⟨ls, xs, v3, a3, rfl, e3, hF3, hx, hp, h8, hd⟩
    have mf : decide ((i : Int) ∈ ofN ls.flatten) = decide (i ∈ ls.flatten) := by
      rw [Bool.eq_iff_iff, decide_eq_true_iff, decide_eq_true_iff, mem_ofN]
    have l8 : ∀ l : List Nat, (∃ a, a < n ∧ ∀ b, b ∈ l ↔ Conn ss a b) → l.Nodup → l.length ≤ 8 := fun l ⟨a, ha, q⟩ hnd => by
      have := nodup_lt hnd fun b hb => ((q b).mp hb).lt hok ha
      omega
    refine s_when (b := !decide (i ∈ ls.flatten)) (pt_test (ep_bis (ep_op (ep_vi rfl) (ep_var rfl (show (pD K (pieceD ls.flatten)).p v3 H3 from hd)) rp_ninT) (by rw [mf]))) (fun hb H4 e4 => ?_) (fun hb H4 e4 => ?_)
    · have hn : ∀ m ∈ ls, i ∉ m := fun m hm hc => by
        have : i ∈ ls.flatten := List.mem_flatten.mpr ⟨m, hm, hc⟩
        simp [this] at hb
      have hpl := hp.len hok
      have hxl := DpAll.len hx
      rw [List.length_map] at hxl
      refine p_app (P := pPiece K ss i) (e4 _ _ hF3) (ep_vv rfl) (ep_call ((n, ss), i) ⟨hok, hi⟩ (ea_cons (ep_var rfl (PD.up _ (e3.trans e4) pw)) (ea_cons (ep_vi rfl) ea_nil))) (by omega) fun v5 H5 e5 p5 => ?_
      obtain ⟨l, hnd, hl, dl⟩ := p5
      have hl8 := l8 l ⟨i, hi, hl⟩ hnd
      have hF5 := e5 _ _ (e4 _ _ hF3)
      have e05 := (e3.trans e4).trans e5
      have dx : DpAll K (upd H5 Fa (.lst (xs ++ [v5]))) (xs ++ [v5]) ((ls ++ [l]).map pieceD) := by
        refine DpAll.lst hF5 (noList_pieces _) ?_
        rw [List.map_append]
        exact DpAll.snoc (DpAll.up (e4.trans e5) hx) dl
      have dk : Dp K (upd H5 Fa (.lst (xs ++ [v5]))) v3 (pieceD ls.flatten) := Dp.lst hF5 (noList_piece _) (Dp.up (e4.trans e5) hd)
      have dl' : Dp K (upd H5 Fa (.lst (xs ++ [v5]))) v5 (pieceD l) := Dp.lst hF5 (noList_piece _) dl
      refine p_asg1 (P := pD K (pieceD (ls ++ [l]).flatten)) ?_ fun v6 H6 e6 p6 => ⟨ls ++ [l], xs ++ [v5], v6, _, rfl, (Ex.mut e05 nF).trans e6, e6 _ _ upd_same, DpAll.up e6 dx, hp.put hi hn hl, fun m hm => (List.mem_append.mp hm).elim (h8 m) fun q => by rw [List.mem_singleton.mp q]; exact hl8, p6⟩
      have ef : (ls ++ [l]).flatten = ls.flatten ++ l := by simp
      rw [ef]
      unfold pieceD
      rw [show (ofN (ls.flatten ++ l)).map PyData.int = (ofN ls.flatten).map .int ++ (ofN l).map .int by simp [ofN]]
      refine ep_op (ep_var rfl (show (pD K (pieceD ls.flatten)).p v3 _ from dk)) (ep_last upd_same (ep_vv rfl) (show (pD K (pieceD l)).p v5 _ from dl')) (rp_catT ?_)
      have := hp.flen hok h8
      rw [List.length_map, List.length_map, ofN_len, ofN_len]
      have : n * 8 ≤ 64 := by omega
      omega
    · refine ⟨ls, xs, v3, _, rfl, e3.trans e4, e4 _ _ hF3, DpAll.up e4 hx, hp.skip ?_, h8, Dp.up e4 hd⟩
      have : i ∈ ls.flatten := by simpa using hb
      obtain ⟨l, h1, h2⟩ := List.mem_flatten.mp this
      exact ⟨l, h1, h2⟩
  · rintro σ' H3 ⟨ls, xs, v3, a3, rfl, e3, hF3, hx, hp, h8, hd⟩
    refine p_ret (ep_vv rfl) fun v4 H4 e4 p4 => ?_
    obtain rfl : v4 = .ref Fa := p4
    exact k Fa xs ls H4 (e3.trans e4) nF (e4 _ _ hF3) (DpAll.up e4 hx) hp
end
end K43
set_option Elab.async false
set_option linter.all false
set_option maxRecDepth 100000
set_option maxHeartbeats 4000000
/-! k43, part S4: ways over a web and their weights. -/
namespace K43
open PySem PySem.Spec L2 Evl C8

def Stl.touch (s : Stl) (w : Nat) : Prop := s.u = w ∨ s.v = w
/-- a way over the web from a to b -/
inductive IsWalk (ss : List Stl) : Nat → Way → Nat → Prop
  | nil (a : Nat) : IsWalk ss a [] a
  | step {a b i : Nat} {p : Way} {s : Stl} : IsWalk ss a p b → ss[i]? = some s → s.touch b → IsWalk ss a (p ++ [(i, b)]) (s.other b)
/-- the factor of one step -/
def fac (ss : List Stl) (x : Nat × Nat) : Rat := match ss[x.1]? with
  | some s => s.held x.2 / s.r
  | none => 1
def wt (ss : List Stl) : Way → Rat
  | [] => 1
  | x :: p => fac ss x * wt ss p
theorem wt_app (ss : List Stl) : ∀ p q : Way, wt ss (p ++ q) = wt ss p * wt ss q
  | [], q => by show wt ss q = 1 * wt ss q; rw [Rat.one_mul]
  | x :: p, q => by
    show fac ss x * wt ss (p ++ q) = fac ss x * wt ss p * wt ss q
    rw [wt_app ss p q, Rat.mul_assoc]
theorem wt_snoc (ss : List Stl) (p : Way) (x : Nat × Nat) : wt ss (p ++ [x]) = wt ss p * fac ss x := by
  rw [wt_app]
  show wt ss p * (fac ss x * 1) = _
  rw [Rat.mul_one]
theorem fac_at {ss : List Stl} {i b : Nat} {s : Stl} (h : ss[i]? = some s) : fac ss (i, b) = s.held b / s.r := by
  unfold fac
  rw [h]
theorem Stl.adj {ss : List Stl} {i : Nat} {s : Stl} {b : Nat} (h : ss[i]? = some s) (ht : s.touch b) : Adj ss b (s.other b) := by
  refine ⟨s, List.mem_of_getElem? h, ?_⟩
  unfold Stl.other
  rcases ht with h1 | h1
  · exact .inl ⟨h1, by rw [if_pos h1]⟩
  · by_cases h2 : s.u = b
    · rw [if_pos h2]
      exact .inl ⟨h2, rfl⟩
    · rw [if_neg h2]
      exact .inr ⟨h1, rfl⟩
theorem IsWalk.conn {ss : List Stl} {a b : Nat} {p : Way} (h : IsWalk ss a p b) : Conn ss a b := by
  induction h with
  | nil => exact .refl _
  | step _ e t ih => exact .step ih (Stl.adj e t)
theorem adj_step {ss : List Stl} {a b : Nat} (hok : ∀ s ∈ ss, s.u ≠ s.v) (h : Adj ss a b) : ∃ (i : Nat) (s : Stl), ss[i]? = some s ∧ s.touch a ∧ s.other a = b := by
  obtain ⟨s, hs, h⟩ := h
  obtain ⟨i, hi⟩ := List.getElem?_of_mem hs
  refine ⟨i, s, hi, ?_, ?_⟩
  · rcases h with ⟨h1, h2⟩ | ⟨h1, h2⟩
    · exact .inl h1
    · exact .inr h1
  · unfold Stl.other
    rcases h with ⟨h1, h2⟩ | ⟨h1, h2⟩
    · rw [if_pos h1, h2]
    · rw [if_neg fun z => hok s hs (z.trans h1.symm), h2]
theorem sz_div {j k : Nat} {q r : Rat} (hq : Sz j q) (hr : Sz k r) (h0 : 0 < r) : Sz (j + k) (q / r) := by
  rw [← over_eq h0]
  have hn := num_pos h0
  refine sz_mkRat (wide_lt hq.1 (show ((r.den : Nat) : Int).natAbs < 2 ^ k from hr.2)) ?_ (Nat.mul_pos q.den_pos (by omega))
  rw [Nat.pow_add]
  refine Nat.mul_lt_mul'' hq.2 ?_
  have := hr.1
  omega
/-! ### ways as values -/
theorem noList_pairs : ∀ r : Way, noListAll (r.map pairD) = true
  | [] => by simp [noListAll]
  | x :: r => by rw [List.map_cons, noListAll, noList_pairs r]; simp [pairD, noList, noListAll]
theorem noList_way (r : Way) : noList (wayD r) = true := by simp [wayD, noList, noList_pairs]
theorem noList_ways : ∀ rs : List Way, noListAll (rs.map wayD) = true
  | [] => by simp [noListAll]
  | r :: rs => by rw [List.map_cons, noListAll, noList_ways rs, noList_way]; rfl
section
variable {K : PySem.W.Frag} {σ : L2.St} {H : Hp} {ta tb te : TE}
theorem ep_pair2 {i b : Nat} (h1 : EvP ta σ H (pI (i : Nat))) (h2 : EvP tb σ H (pI (b : Nat))) : EvP (tTup (tCons ta (tCons tb tNil))) σ H (pD K (pairD (i, b))) :=
  (ep_tup (K := K) (ea_cons h1 (ea_cons h2 ea_nil)) (by simp)).imp fun v H' _ p => by
    obtain ⟨a, xs, rfl, h, x, _, rfl, px, y, _, rfl, py, e⟩ := p
    cases e
    cases px
    cases py
    exact .tup h (.cons (.int _) (.cons (.int _) .nil))
theorem ep_way1 {i b : Nat} (h1 : EvP ta σ H (pI (i : Nat))) (h2 : EvP tb σ H (pI (b : Nat))) : EvP (tTup (tCons (tTup (tCons ta (tCons tb tNil))) tNil)) σ H (pD K (wayD [(i, b)])) :=
  (ep_tup (K := K) (ea_cons (ep_pair2 (K := K) h1 h2) ea_nil) (by simp)).imp fun v H' _ p => by
    obtain ⟨a, xs, rfl, h, x, _, rfl, px, e⟩ := p
    cases e
    exact .tup h (.cons px .nil)
theorem ep_wayCat {p q : Way} (h1 : EvP ta σ H (pD K (wayD p))) (h2 : EvP tb σ H (pD K (wayD q))) (hl : p.length + q.length ≤ 10000) : EvP (tOp (rCatA K) ta tb) σ H (pD K (wayD (p ++ q))) := by
  unfold wayD
  rw [List.map_append]
  exact ep_op h1 h2 (rp_catT (by rw [List.length_map, List.length_map]; omega))
end
end K43
set_option Elab.async false
set_option linter.all false
set_option maxRecDepth 100000
set_option maxHeartbeats 4000000
/-! k43, part F9: scales_and_ways. -/
namespace K43
open PySem PySem.Spec L2 Evl C8
/-- a scale for each ware, by ways from the heads -/
structure Tree (ss : List Stl) (n : Nat) (rt : Nat → Nat) (sc : Nat → Rat) : Prop where
  tr : ∀ w, w < n → Sz 1700 (sc w) ∧ ∃ p, IsWalk ss (rt w) p w ∧ sc w = wt ss p
  one : ∀ u v, Adj ss u v → rt u = rt v
structure ScI (C : Addr) (K : PySem.W.Frag) (ss : List Stl) (n : Nat) (H H' : Hp) (F Y : Addr) (fs hs : List Nat) (rt : Nat → Nat) (sc : Nat → Rat) : Prop where
  ex : Ex H H'
  nF : H F = none
  nY : H Y = none
  ne : F ≠ Y
  hF : ∃ kvs : List (Key × V), H' F = some (.dK kvs) ∧ kvs.map (·.1) = (ofN fs).map Sum.inl ∧ ∀ w ∈ fs, ∃ v, valV kvs (Sum.inl (w : Int)) = some v ∧ (pE C (sc w)).p v H'
  hY : ∃ kvs : List (Key × V), H' Y = some (.dK kvs) ∧ kvs.map (·.1) = (ofN fs).map Sum.inl ∧ ∀ w ∈ fs, ∃ v p, valV kvs (Sum.inl (w : Int)) = some v ∧ p.length ≤ fs.length ∧ Dp K H' v (wayD p)
  nd : fs.Nodup
  lt : ∀ w ∈ fs, w < n
  sz : ∀ w ∈ fs, Sz (200 * fs.length) (sc w)
  tr : ∀ w ∈ fs, rt w ∈ hs ∧ ∃ p, IsWalk ss (rt w) p w ∧ sc w = wt ss p
  hin : ∀ h ∈ hs, h ∈ fs
section
variable {C : Addr} {K : PySem.W.Frag} {ss : List Stl} {n : Nat} {H H' H'' : Hp} {F Y : Addr} {fs hs : List Nat} {rt : Nat → Nat} {sc : Nat → Rat}
theorem ScI.ups (h : ScI C K ss n H H' F Y fs hs rt sc) (ex : Ex H H'') (e : ExF H' H'') (e1 : H'' F = H' F) (e2 : H'' Y = H' Y) : ScI C K ss n H H'' F Y fs hs rt sc where
  ex := ex
  nF := h.nF
  nY := h.nY
  ne := h.ne
  hF := by
    obtain ⟨kvs, a, b, c⟩ := h.hF
    exact ⟨kvs, e1.trans a, b, fun w hw => (c w hw).imp fun v q => ⟨q.1, fx_E.fx e q.2⟩⟩
  hY := by
    obtain ⟨kvs, a, b, c⟩ := h.hY
    refine ⟨kvs, e2.trans a, b, fun w hw => ?_⟩
    obtain ⟨v, p, q1, q2, q3⟩ := c w hw
    exact ⟨v, p, q1, q2, Dp.fx e (noList_way p) q3⟩
  nd := h.nd
  lt := h.lt
  sz := h.sz
  tr := h.tr
  hin := h.hin
theorem ScI.up (h : ScI C K ss n H H' F Y fs hs rt sc) (e : Ex H' H'') : ScI C K ss n H H'' F Y fs hs rt sc := by
  obtain ⟨k1, a1, _⟩ := h.hF
  obtain ⟨k2, a2, _⟩ := h.hY
  exact h.ups (h.ex.trans e) (ExF.of e) ((e _ _ a1).trans a1.symm) ((e _ _ a2).trans a2.symm)
/-- a list that is neither of the dicts changes -/
theorem ScI.lst (h : ScI C K ss n H H' F Y fs hs rt sc) {W : Addr} {xs ys : List V} (hW : H' W = some (.lst xs)) (nW : H W = none) : ScI C K ss n H (upd H' W (.lst ys)) F Y fs hs rt sc := by
  obtain ⟨k1, a1, _⟩ := h.hF
  obtain ⟨k2, a2, _⟩ := h.hY
  refine h.ups (Ex.mut h.ex nW) (ExF.upd hW rfl) ?_ ?_
  · exact upd_ne (ne_of a1 hW (by intro z; cases z))
  · exact upd_ne (ne_of a2 hW (by intro z; cases z))
theorem ScI.put (h : ScI C K ss n H H' F Y fs hs rt sc) {k1 k2 : List (Key × V)} {t r : Nat} {v1 v2 : V} {q : Rat} {p : Way} {hs' : List Nat} (hF : H' F = some (.dK k1)) (hY : H' Y = some (.dK k2)) (ht : t ∉ fs) (hlt : t < n)
    (ex : Ex H H'') (ef : ExF H' H'') (gF : H'' F = some (.dK (putK k1 (Sum.inl (t : Int)) v1))) (gY : H'' Y = some (.dK (putK k2 (Sum.inl (t : Int)) v2))) (h1 : (pE C q).p v1 H'') (h2 : Dp K H'' v2 (wayD p)) (hp : p.length ≤ fs.length + 1)
    (hq : Sz (200 * (fs.length + 1)) q) (hr : r ∈ hs') (hw : ∃ p, IsWalk ss r p t ∧ q = wt ss p) (hsub : ∀ x ∈ hs, x ∈ hs') (hin : ∀ x ∈ hs', x ∈ fs ++ [t]) :
    ScI C K ss n H H'' F Y (fs ++ [t]) hs' (fun x => if x = t then r else rt x) (fun x => if x = t then q else sc x) where
  ex := ex
  nF := h.nF
  nY := h.nY
  ne := h.ne
  hF := by
    obtain ⟨kvs, a, b, c⟩ := h.hF
    rw [hF] at a
    cases a
    refine ⟨putK k1 (Sum.inl (t : Int)) v1, gF, ?_, fun w hw => ?_⟩
    · rw [putK_new (by rw [b, key_ofN]; exact ht), List.map_append, b, ofN_snoc, List.map_append]
      rfl
    · rw [valV_put]
      by_cases hwt : w = t
      · subst hwt
        rw [if_pos rfl, if_pos rfl]
        exact ⟨v1, rfl, h1⟩
      · have hne : ¬ (Sum.inl (w : Int) : Key) = Sum.inl (t : Int) := by
          intro z
          cases z
          exact hwt (by omega)
        rw [if_neg hne, if_neg hwt]
        have hw' : w ∈ fs := (List.mem_append.mp hw).resolve_right fun z => hwt (List.mem_singleton.mp z)
        obtain ⟨v, e1, e2⟩ := c w hw'
        exact ⟨v, e1, fx_E.fx ef e2⟩
  hY := by
    obtain ⟨kvs, a, b, c⟩ := h.hY
    rw [hY] at a
    cases a
    refine ⟨putK k2 (Sum.inl (t : Int)) v2, gY, ?_, fun w hw => ?_⟩
    · rw [putK_new (by rw [b, key_ofN]; exact ht), List.map_append, b, ofN_snoc, List.map_append]
      rfl
    · rw [valV_put, List.length_append, List.length_singleton]
      by_cases hwt : w = t
      · subst hwt
        rw [if_pos rfl]
        exact ⟨v2, p, rfl, hp, h2⟩
      · have hne : ¬ (Sum.inl (w : Int) : Key) = Sum.inl (t : Int) := by
          intro z
          cases z
          exact hwt (by omega)
        rw [if_neg hne]
        have hw' : w ∈ fs := (List.mem_append.mp hw).resolve_right fun z => hwt (List.mem_singleton.mp z)
        obtain ⟨v, p, e1, e2, e3⟩ := c w hw'
        exact ⟨v, p, e1, by omega, Dp.fx ef (noList_way p) e3⟩
  nd := nd_snoc h.nd ht
  lt := fun w hw => by
    rcases List.mem_append.mp hw with m | m
    · exact h.lt w m
    · rw [List.mem_singleton.mp m]; exact hlt
  sz := fun w hw => by
    rw [List.length_append, List.length_singleton]
    show Sz _ (if w = t then q else sc w)
    by_cases hwt : w = t
    · rw [if_pos hwt]; exact hq
    · rw [if_neg hwt]
      have hw' : w ∈ fs := (List.mem_append.mp hw).resolve_right fun z => hwt (List.mem_singleton.mp z)
      exact (h.sz w hw').mono (by omega)
  tr := fun w hw' => by
    show (if w = t then r else rt w) ∈ hs' ∧ ∃ p, IsWalk ss (if w = t then r else rt w) p w ∧ (if w = t then q else sc w) = wt ss p
    by_cases hwt : w = t
    · rw [if_pos hwt, if_pos hwt]
      subst hwt
      exact ⟨hr, hw⟩
    · rw [if_neg hwt, if_neg hwt]
      have hw'' : w ∈ fs := (List.mem_append.mp hw').resolve_right fun z => hwt (List.mem_singleton.mp z)
      obtain ⟨a, b⟩ := h.tr w hw''
      exact ⟨hsub _ a, b⟩
  hin := hin
end
section
variable {P : Program} {w : World} {K : PySem.W.Frag} {mg : Str → Option Value} {base : Heap} {cE cW : Addr} {σ : L2.St} {H : Hp} {te tx : TE}
def pPcs (K : PySem.W.Frag) (n : Nat) (ss : List Stl) (H0 : Hp) : PD := ⟨fun v H => ∃ a xs ls, v = .ref a ∧ H0 a = none ∧ H a = some (.lst xs) ∧ DpAll K H xs (ls.map pieceD) ∧ Parts ss n n ls, by
  rintro v H H' e ⟨a, xs, ls, h1, h2, h3, h4, h5⟩
  exact ⟨a, xs, ls, h1, h2, e _ _ h3, DpAll.up e h4, h5⟩⟩
theorem ep_pieces {n : Nat} {ss : List Stl} {E : XK} {ta : TA} (hok : WOk n ss) (ha : EvPA ta σ H [pW K cW n ss]) : EvP (tCall (spPieces K cW) [] E ta) σ H (pPcs K n ss H) := fun H1 e Q q =>
  ha H1 e _ fun vs H2 e2 ps => by
    obtain ⟨v, r, rfl, p, er⟩ := ps
    cases er
    exact ⟨n, ss, v, hok, rfl, p, fun a xs ls H' e3 h1 h2 h3 h4 => q _ _ (e2.trans e3) ⟨a, xs, ls, rfl, fresh_back (e.trans e2) h1, h2, h3, h4⟩⟩
theorem ep_E11 {E : XK} : EvP (tMake cE (spInitE cE) [] L2.E0 (tCons (tC (.int 1)) (tCons (tC (.int 1)) tNil))) σ H (pE cE 1) :=
  ep_mkE' (ea_cons ep_i (ea_cons ep_i ea_nil)) (by decide) (by decide) (by decide) (by decide +kernel)
def pScales (K : PySem.W.Frag) (C : Addr) (n : Nat) (ss : List Stl) : PD := ⟨fun v H => ∃ t F Y kvs rt sc, v = .ref t ∧ SqT K H t [.ref F, .ref Y] ∧ H F = some (.dK kvs) ∧ (∀ w, w < n → ∃ v, valV kvs (Sum.inl (w : Int)) = some v ∧ (pE C (sc w)).p v H) ∧ Tree ss n rt sc,
  fun e ⟨t, F, Y, kvs, rt, sc, h1, h2, h3, h4, h5⟩ => ⟨t, F, Y, kvs, rt, sc, h1, ex_t e h2, e _ _ h3, fun w hw => (h4 w hw).imp fun v q => ⟨q.1, PD.up _ e q.2⟩, h5⟩⟩
def spScales (K : PySem.W.Frag) (cE cW : Addr) : Sp := spF (fun (x : Nat × List Stl) => [pW K cW x.1 x.2]) (fun x => pScales K cE x.1 x.2) (fun x => WOk x.1 x.2)
theorem ep_dnewK : EvP tDNewK σ H ⟨fun x H' => ∃ p, x = .ref p ∧ H p = none ∧ H' p = some (.dK []), fun e ⟨p, h1, h2, h3⟩ => ⟨p, h1, h2, e _ _ h3⟩⟩ := fun H1 e Q q p hp =>
  q _ _ (Ex.new hp) ⟨p, rfl, fresh_back e hp, upd_same⟩
theorem ok28 (T : Txt K mg cE cW) : Cal P w K mg base 8 "scales_and_ways" (spScales K cE cW) [] := by
  have sc0 : FnScope ["web", "found", "ways", "piece", "waiting", "here", "index", "stall", "there"] ["web"] (defScope (top 28)) := ⟨rfl, rfl, rfl, by decide +kernel, rfl, by decide +kernel, by decide +kernel⟩
  refine T.d28.cal sc0 (spF_len fun _ => rfl) fun cdv f A outer s H vs Q E hr h => ?_
  obtain ⟨⟨n, ss⟩, hok, ⟨v, rs, rfl, pw, e⟩, k⟩ := h
  cases e
  replace hok : WOk n ss := hok
  replace pw : (pW K cW n ss).p v H := pw
  have hu := hu_of hr
  have n8 := hok.n8
  refine ⟨_, pss_cons (ps_set (i := 1) sc0.nd rfl (.inl rfl) pe_dnewK)
    (pss_cons (ps_set (i := 2) sc0.nd rfl (.inl rfl) pe_dnewK)
    (pss_cons (ps_for PassesOwn.never rfl (pi_list (pe_c (ok25 T) hr (by decide) rfl (pa_cons (pv 0) pa_nil))) (pg_name (i := 3) sc0.nd rfl (.inl rfl))
      (pss_cons (ps_dput hu (pv 1) (pe_ix ix_tup (pv 3) pe_int (fun _ _ => rfl)) (pe_mk (okInitE T) hr (by decide) rfl (pa_cons pe_int (pa_cons pe_int pa_nil))) rfl)
      (pss_cons (ps_dput hu (pv 2) (pe_ix ix_tup (pv 3) pe_int (fun _ _ => rfl)) (pe_tup pa_nil) rfl)
      (pss_cons (ps_set (i := 4) sc0.nd rfl (.inl rfl) (pe_lst (pa_cons (pe_ix ix_tup (pv 3) pe_int (fun _ _ => rfl)) pa_nil)))
      (pss_one (ps_while PassesOwn.never (pt_cmpR (op_neD hr.units) (pv 4) (pe_lst pa_nil) (nomark _))
        (pss_cons (ps_set (i := 5) sc0.nd rfl (.inl rfl) (pe_bm0 PySem.F.plainAttrs_list PySem.F.slot_list_pop PySem.F.type_list_pop mt_pop (pv 4)))
        (pss_one (ps_for PassesOwn.never rfl (pi_enumT (by rfl) T.b_enum (pa_cons (pe_fld (pv 0) rfl) pa_nil)) (pg_tup rfl (pgs_cons (pg_name (i := 6) sc0.nd rfl (.inl rfl)) (pgs_cons (pg_name (i := 7) sc0.nd rfl (.inl rfl)) pgs_nil)))
          (pss_one (ps_if (PW.pt (pw_and (pt_cmpR op_in_seq (pv 5) (pe_slice sl_tupA (pv 7) po_none (po_some pe_int)) rfl) (pw_and1 (pt_cmp (pc_dnotin hu (pe_c (ok21 T) hr (by decide) rfl (pa_cons (pv 7) (pa_cons (pv 5) pa_nil))) (pv 1))))))
            (pss_cons (ps_set (i := 8) sc0.nd rfl (.inl rfl) (pe_c (ok21 T) hr (by decide) rfl (pa_cons (pv 7) (pa_cons (pv 5) pa_nil))))
            (pss_cons (ps_dput hu (pv 1) (pv 8) (pe_c (ok27 T) hr (by decide) rfl (pa_cons (pv 7) (pa_cons (pv 5) (pa_cons (pe_dget hu (pv 1) (pv 5) (fun _ _ => rfl)) pa_nil)))) rfl)
            (pss_cons (ps_dput hu (pv 2) (pv 8) (pe_op op_catA (pe_dget hu (pv 2) (pv 5) (fun _ _ => rfl)) (pe_tup (pa_cons (pe_tup (pa_cons (pv 6) (pa_cons (pv 5) pa_nil))) pa_nil))) rfl)
            (pss_one (ps_expr (pe_bm PySem.F.plainAttrs_list PySem.F.slot_list_append PySem.F.type_list_append mt_append (pv 4) (pa_cons (pv 8) pa_nil))))))) pss_nil)))))))))))
    (pss_one (ps_ret (pe_tup (pa_cons (pv 1) (pa_cons (pv 2) pa_nil))))))), ?_⟩
  obtain ⟨tw, xw, hw⟩ := id pw
  refine p_asg ep_dnewK fun v1 H1 e1 p1 => ?_
  obtain ⟨F, rfl, nF, hF⟩ := p1
  refine p_asg ep_dnewK fun v2 H2 e2 p2 => ?_
  obtain ⟨Y, rfl, nY, hY⟩ := p2
  have e02 := e1.trans e2
  have hFY : F ≠ Y := ne_of_none hF nY
  have i0 : ScI cE K ss n H H2 F Y [] [] (fun _ => 0) (fun _ => 1) := ⟨e02, nF, fresh_back e1 nY, hFY, ⟨[], e2 _ _ hF, rfl, by simp⟩, ⟨[], hY, rfl, by simp⟩, List.nodup_nil, by simp, by simp, by simp, by simp⟩
  refine p_forLm (ep_pieces hok (ea_cons (ep_var rfl (PD.up _ e02 pw)) ea_nil)) fun vp H3 e3 pp => ?_
  obtain ⟨PL, xs, ls, rfl, nPL, hPL, dx, hp⟩ := pp
  have hpl := hp.len hok
  have hxl := DpAll.len dx
  rw [List.length_map] at hxl
  refine ⟨PL, xs, rfl, hPL, fun i σ' H' => ∃ fs hs rt sc a3 a4 a5 a6 a7 a8, σ' = [some v, some (.ref F), some (.ref Y), a3, a4, a5, a6, a7, a8] ∧ ScI cE K ss n H H' F Y fs hs rt sc ∧ ExF H3 H' ∧ H' PL = some (.lst xs) ∧
    (∀ w ∈ fs, ∃ l ∈ ls.take i, w ∈ l) ∧ (∀ l ∈ ls.take i, ∃ h ∈ l, h ∈ fs) ∧ (∀ x ∈ fs, ∀ y, Adj ss x y → y ∈ fs) ∧ (∀ a ∈ hs, ∀ b ∈ hs, Conn ss a b → a = b), ?_, ?_, ?_, ?_⟩
  · exact ⟨[], [], _, _, none, none, none, none, none, none, rfl, i0.up e3, ExF.refl _, hPL, by simp, by simp, by simp, by simp⟩
  · rintro i σ' H' ⟨_, _, _, _, _, _, _, _, _, _, _, _, _, h, _⟩
    exact h
  · rintro i x σ' H4 hi ⟨fs, hs, rt, sc, a3, a4, a5, a6, a7, a8, rfl, i4, ef4, hPL4, fin, lin, cl, sep⟩
    obtain ⟨d, hd1, hd2⟩ := DpAll.get dx hi
    rw [List.getElem?_map] at hd1
    cases el : ls[i]? with
    | none => rw [el] at hd1; cases hd1
    | some l =>
    rw [el] at hd1
    cases hd1
    have hl := List.mem_of_getElem? el
    obtain ⟨a, ha, hcl⟩ := hp.comp l hl
    have hal := (hcl a).mpr (.refl a)
    obtain ⟨h, l', rfl⟩ : ∃ h l', l = h :: l' := by
      cases l with
      | nil => cases hal
      | cons h l' => exact ⟨h, l', rfl⟩
    have hah := (hcl h).mp (List.mem_cons_self ..)
    have hhn : h < n := hah.lt hok ha
    have htk : ls.take (i + 1) = ls.take i ++ [h :: l'] := by rw [List.take_add_one, el]; rfl
    have hapart : ∀ m ∈ ls.take i, ∀ c ∈ m, ¬ Conn ss c h := by
      intro m hm c hc
      have h1 : (ls.take (i + 1)).Pairwise fun l m => ∀ a ∈ l, ∀ b ∈ m, ¬ Conn ss a b := hp.apart.sublist (List.take_sublist _ _)
      rw [htk, List.pairwise_append] at h1
      exact h1.2.2 m hm _ (List.mem_singleton.mpr rfl) c hc h (List.mem_cons_self ..)
    have hhf : h ∉ fs := fun hm => by
      obtain ⟨m, h1, h2⟩ := fin h hm
      exact hapart m h1 h h2 (.refl h)
    -- found[piece[0]] = Exact(1, 1); ways[piece[0]] = ()
    obtain ⟨k1, hF4, hk1, _⟩ := i4.hF
    obtain ⟨k2, hY4, hk2, _⟩ := i4.hY
    have lk1 : k1.length ≤ 10000 := by
      have h1 := congrArg List.length hk1
      have h2 := nodup_lt i4.nd i4.lt
      rw [List.length_map, List.length_map, ofN_len] at h1
      omega
    have lk2 : k2.length ≤ 10000 := by
      have h1 := congrArg List.length hk2
      have h2 := nodup_lt i4.nd i4.lt
      rw [List.length_map, List.length_map, ofN_len] at h1
      omega
    have px4 : (pD K (pieceD (h :: l'))).p x H4 := Dp.fx ef4 (noList_piece _) hd2
    refine p_dput (ep_E11 (E := L2.E0)) (ep_vv rfl) (ep_ixI (i := 0) (n := (h : Int)) (ep_var rfl px4) ep_i rfl) hF4 lk1 fun v5 H5 e5 p5 => ?_
    have hF5 := e5 _ _ hF4
    have ef5 : ExF H4 (upd H5 F (.dK (putK k1 (Sum.inl (h : Int)) v5))) := (ExF.of e5).trans (ExF.upd hF5 rfl)
    have px5 := (fx_D (noList_piece _)).fx ef5 px4
    have hY5 : (upd H5 F (.dK (putK k1 (Sum.inl (h : Int)) v5))) Y = some (.dK k2) := by rw [upd_ne hFY.symm]; exact e5 _ _ hY4
    refine p_dput (ep_nilT (K := K)) (ep_vv rfl) (ep_ixI (i := 0) (n := (h : Int)) (ep_var rfl px5) ep_i rfl) hY5 lk2 fun v6 H6 e6 p6 => ?_
    have hY6 := e6 _ _ hY5
    have ef6 : ExF (upd H5 F (.dK (putK k1 (Sum.inl (h : Int)) v5))) (upd H6 Y (.dK (putK k2 (Sum.inl (h : Int)) v6))) := (ExF.of e6).trans (ExF.upd hY6 rfl)
    have ex5 : Ex H (upd H5 F (.dK (putK k1 (Sum.inl (h : Int)) v5))) := Ex.mut (i4.ex.trans e5) i4.nF
    have ex6 : Ex H (upd H6 Y (.dK (putK k2 (Sum.inl (h : Int)) v6))) := Ex.mut (ex5.trans e6) i4.nY
    have i6 : ScI cE K ss n H (upd H6 Y (.dK (putK k2 (Sum.inl (h : Int)) v6))) F Y (fs ++ [h]) (hs ++ [h]) (fun x => if x = h then h else rt x) (fun x => if x = h then 1 else sc x) := by
      refine i4.put (p := []) (v1 := v5) hF4 hY4 hhf hhn ex6 (ef5.trans ef6) ?_ upd_same ?_ ?_ (Nat.zero_le _) (sz_one _ (by omega)) (by simp) ⟨[], .nil h, rfl⟩ (fun x hx => List.mem_append_left _ hx) ?_
      · rw [upd_ne hFY]
        exact e6 _ _ upd_same
      · exact fx_E.fx ((ExF.upd hF5 rfl).trans ef6) p5
      · exact Dp.fx (ExF.upd hY6 rfl) (noList_way []) p6
      · intro x hx
        rcases List.mem_append.mp hx with q | q
        · exact List.mem_append_left _ (i4.hin x q)
        · exact List.mem_append_right _ q
    have px6 := (fx_D (noList_piece _)).fx ef6 px5
    have nePF : PL ≠ F := ne_of hPL4 hF4 (by intro z; cases z)
    have nePY : PL ≠ Y := ne_of hPL4 hY4 (by intro z; cases z)
    have hPL6 : (upd H6 Y (.dK (putK k2 (Sum.inl (h : Int)) v6))) PL = some (.lst xs) := by
      rw [upd_ne nePY]
      refine e6 _ _ ?_
      rw [upd_ne nePF]
      exact e5 _ _ hPL4
    refine p_asg (ep_lstN (Ps := [pI (h : Nat)]) (ea_cons (ep_ixI (i := 0) (n := (h : Int)) (ep_var rfl px6) ep_i rfl) ea_nil) (by simp)) fun v7 H7 e7 p7 => ?_
    obtain ⟨W, _, rfl, nW, hW, w1, _, rfl, pw1, er⟩ := p7
    cases er
    cases pw1
    have nWH : H W = none := fresh_back ex6 nW
    have nPW : PL ≠ W := ne_of_none hPL6 nW
    have i7 := i6.up e7
    have ef7 : ExF H3 H7 := ((ef4.trans ef5).trans ef6).trans (ExF.of e7)
    have fin6 : ∀ w ∈ fs ++ [h], ∃ l ∈ ls.take (i + 1), w ∈ l := by
      intro w hw'
      rw [htk]
      rcases List.mem_append.mp hw' with q | q
      · obtain ⟨l, h1, h2⟩ := fin w q
        exact ⟨l, List.mem_append_left _ h1, h2⟩
      · rw [List.mem_singleton.mp q]
        exact ⟨h :: l', by simp, by simp⟩
    have cl6 : ∀ x ∈ fs ++ [h], x ∉ [h] → ∀ y, Adj ss x y → y ∈ fs ++ [h] := by
      intro x hx hn y hxy
      rcases List.mem_append.mp hx with q | q
      · exact List.mem_append_left _ (cl x q y hxy)
      · exact absurd q hn
    have sep6 : ∀ a ∈ hs ++ [h], ∀ b ∈ hs ++ [h], Conn ss a b → a = b := by
      have one : ∀ a ∈ hs, ¬ Conn ss a h := fun a ha => by
        obtain ⟨m, h1, h2⟩ := fin a (i4.hin a ha)
        exact hapart m h1 a h2
      intro a ha b hb hc
      rcases List.mem_append.mp ha with q | q
      · rcases List.mem_append.mp hb with q' | q'
        · exact sep a q b q' hc
        · rw [List.mem_singleton.mp q'] at hc
          exact absurd hc (one a q)
      · rw [List.mem_singleton.mp q] at hc ⊢
        rcases List.mem_append.mp hb with q' | q'
        · exact absurd hc.symm (one b q')
        · exact (List.mem_singleton.mp q').symm
    refine s_while (fun m σ' H' => ∃ fs2 rt2 sc2 ws a5 a6 a7 a8, σ' = [some v, some (.ref F), some (.ref Y), some x, some (.ref W), a5, a6, a7, a8] ∧ ScI cE K ss n H H' F Y fs2 (hs ++ [h]) rt2 sc2 ∧ ExF H3 H' ∧ H' PL = some (.lst xs) ∧ H' W = some (.lst ((ofN ws).map V.int)) ∧
      (∀ b ∈ ws, b ∈ fs2) ∧ (∀ w ∈ fs2, ∃ l ∈ ls.take (i + 1), w ∈ l) ∧ (∀ x ∈ fs ++ [h], x ∈ fs2) ∧ (∀ x ∈ fs2, x ∉ ws → ∀ y, Adj ss x y → y ∈ fs2) ∧ 2 * (8 - fs2.length) + ws.length ≤ m ∧ m ≤ 17) 17
      ⟨fs ++ [h], _, _, [h], a5, a6, a7, a8, rfl, i7, ef7, e7 _ _ hPL6, hW, by simp, fin6, fun _ q => q, cl6, by rw [List.length_singleton]; omega, Nat.le_refl _⟩ ?_
    rintro m σ' H8 ⟨fs2, rt2, sc2, ws, b5, b6, b7, b8, rfl, i8, ef8, hPL8, hW8, wf8, fin8, sub8, cl8, hm8, hm17⟩
    have dW : (pD K (.list ((ofN ws).map .int))).p (.ref W) H8 := .lst (SqL.of hW8) ints_DpAll
    refine ⟨!(ws.isEmpty), pt_test (ep_bis (ep_op (ep_var rfl dW) ep_nilL (rp_neD (shaped_ints _) shaped_nil)) (by rw [eqv_nil]; cases ws <;> rfl)), fun hb H9 e9 => ?_, fun hb H9 e9 => ?_⟩
    · have hne : ws ≠ [] := by
        rintro rfl
        cases hb
      obtain ⟨ws0, here, rfl⟩ : ∃ ws0 here, ws = ws0 ++ [here] := ⟨ws.dropLast, ws.getLast hne, (List.dropLast_concat_getLast hne).symm⟩
      have i9 := i8.up e9
      have hin := wf8 here (by simp)
      have hlt := i9.lt here hin
      have hW9 : H9 W = some (.lst ((ofN ws0).map V.int ++ [V.int (here : Nat)])) := by
        have := e9 _ _ hW8
        rw [ofN_snoc, List.map_append] at this
        exact this
      refine ⟨_, fun σ2 H2 h => h, ?_⟩
      refine p_pop hW9 (ep_vv rfl) fun H10 e10 => ?_
      have hW10 := e10 _ _ hW9
      have i10 := (i9.up e10).lst (ys := (ofN ws0).map V.int) hW10 nWH
      have ef10 : ExF H3 (upd H10 W (.lst ((ofN ws0).map V.int))) := (ef8.trans (ExF.of (e9.trans e10))).trans (ExF.upd hW10 rfl)
      have hPL10 : (upd H10 W (.lst ((ofN ws0).map V.int))) PL = some (.lst xs) := by
        rw [upd_ne nPW]
        exact e10 _ _ (e9 _ _ hPL8)
      have hw10 := hw.up i10.ex
      refine p_enumT1 (H0 := H) (ea_cons (ep_stalls T rfl hw10) ea_nil) hw.tp i10.ex (fun j σ' H' => ∃ fs3 rt3 sc3 ws3 a6 a7 a8, σ' = [some v, some (.ref F), some (.ref Y), some x, some (.ref W), some (.int (here : Nat)), a6, a7, a8] ∧ ScI cE K ss n H H' F Y fs3 (hs ++ [h]) rt3 sc3 ∧ ExF H3 H' ∧ H' PL = some (.lst xs) ∧ H' W = some (.lst ((ofN ws3).map V.int)) ∧
        (∀ b ∈ ws3, b ∈ fs3) ∧ (∀ w ∈ fs3, ∃ l ∈ ls.take (i + 1), w ∈ l) ∧ (∀ x ∈ fs ++ [h], x ∈ fs3) ∧ here ∈ fs3 ∧ (∀ x ∈ fs3, x ∉ ws3 → x ≠ here → ∀ y, Adj ss x y → y ∈ fs3) ∧ (∀ (q : Nat) (st : Stl), q < j → ss[q]? = some st → st.touch here → st.other here ∈ fs3) ∧ 2 * (8 - fs3.length) + ws3.length + 1 ≤ m)
        (fun H11 e11 => ⟨fs2, rt2, sc2, ws0, b6, b7, b8, rfl, i10.up e11, ef10.trans (ExF.of e11), e11 _ _ hPL10, e11 _ _ upd_same, fun b hb => wf8 b (List.mem_append_left _ hb), fin8, sub8, hin, fun x hx hn hne y hxy => cl8 x hx (fun hm => (List.mem_append.mp hm).elim hn fun z => hne (List.mem_singleton.mp z)) y hxy, fun q st hq => absurd hq (Nat.not_lt_zero _), by rw [List.length_append, List.length_singleton] at hm8; omega⟩)
        (fun j σ' H' ⟨_, _, _, _, _, _, _, _, h, _⟩ => h.ex) ?_ ?_
      · rintro j xst σ' H11 H12 hj ⟨fs3, rt3, sc3, ws3, a6, a7, a8, rfl, i11, ef11, hPL11, hW11, wf11, fin11, sub11, hin11, cl11, ks11, hm11⟩ e12
        obtain ⟨st, hst, pst⟩ := hw.stl hj
        have so := hok.ok st (List.mem_of_getElem? hst)
        have i12 := i11.up e12
        have pst12 := PD.up _ i12.ex pst
        obtain ⟨k1, hF12, hk1, hv1⟩ := i12.hF
        obtain ⟨k2, hY12, hk2, hv2⟩ := i12.hY
        have l8 := nodup_lt i12.nd i12.lt
        have lk1 : k1.length ≤ 10000 := by
          have h1 := congrArg List.length hk1
          rw [List.length_map, List.length_map, ofN_len] at h1
          omega
        have lk2 : k2.length ≤ 10000 := by
          have h1 := congrArg List.length hk2
          rw [List.length_map, List.length_map, ofN_len] at h1
          omega
        have tch : decide ((here : Int) ∈ [(st.u : Int), (st.v : Int)]) = true ↔ st.touch here := by
          rw [decide_eq_true_iff]
          simp only [List.mem_cons, List.not_mem_nil, or_false]
          unfold Stl.touch
          constructor
          · rintro (q | q)
            · exact .inl (by omega)
            · exact .inr (by omega)
          · rintro (q | q)
            · exact .inl (by omega)
            · exact .inr (by omega)
        have hmem : (valV k1 (Sum.inl ((st.other here : Nat) : Int))).isSome = true ↔ st.other here ∈ fs3 := by
          rw [valV_some, hk1, key_ofN]
        refine s_when (b := decide ((here : Int) ∈ [(st.u : Int), (st.v : Int)]) && !(valV k1 (Sum.inl ((st.other here : Nat) : Int))).isSome)
          (et_and (pt_test (ep_op (ep_vi rfl) (ep_slTo (n := 2) (ep_var rfl pst12) ep_i) (rp_inT (ns := [(st.u : Int), (st.v : Int)])))) fun _ => et_dnotin (ep_call (st, here) trivial (ea_cons (ep_var rfl pst12) (ea_cons (ep_vi rfl) ea_nil))) (ep_vv rfl) hF12) (fun hb H13 e13 => ?_) (fun hb H13 e13 => ?_)
        · rw [Bool.and_eq_true] at hb
          have ht : st.touch here := tch.mp hb.1
          have hnt : st.other here ∉ fs3 := fun z => by
            have := hmem.mpr z
            rw [this] at hb
            cases hb.2
          have hadj := Stl.adj hst ht
          have hol := (hadj.lt hok).2
          have i13 := i12.up e13
          have pst13 := PD.up _ e13 pst12
          -- there = other_ware(stall, here)
          refine p_asg (ep_call (st, here) trivial (ea_cons (ep_var rfl pst13) (ea_cons (ep_vi rfl) ea_nil))) fun vt H14 e14 p14 => ?_
          obtain rfl : vt = V.int (st.other here : Nat) := p14
          have i14 := i13.up e14
          have pst14 := PD.up _ e14 pst13
          have hF14 := e14 _ _ (e13 _ _ hF12)
          obtain ⟨vh, hvh, pvh⟩ := hv1 here hin11
          have pvh14 := PD.up _ (e13.trans e14) pvh
          -- found[there] = next_scale(stall, here, found[here])
          refine p_dput (P := pE cE (sc3 here * st.held here / st.r)) (k := (st.other here : Nat)) (ep_call (st, here, sc3 here) ⟨⟨n, so⟩, (i14.sz here hin11).mono (by omega)⟩ (ea_cons (ep_var rfl pst14) (ea_cons (ep_vi rfl) (ea_cons ((ep_dget (v := vh) (ep_vv rfl) (ep_vi (n := (here : Int)) rfl) hF14 hvh).imp fun v' H' e' p' => by
            obtain rfl : v' = vh := p'
            exact PD.up _ e' pvh14) ea_nil)))) (ep_vv rfl) (ep_vi rfl) hF14 lk1 fun v15 H15 e15 p15 => ?_
          have hF15 := e15 _ _ hF14
          have ef15 : ExF H14 (upd H15 F (.dK (putK k1 (Sum.inl ((st.other here : Nat) : Int)) v15))) := (ExF.of e15).trans (ExF.upd hF15 rfl)
          have hY15 : (upd H15 F (.dK (putK k1 (Sum.inl ((st.other here : Nat) : Int)) v15))) Y = some (.dK k2) := by rw [upd_ne hFY.symm]; exact e15 _ _ (e14 _ _ (e13 _ _ hY12))
          obtain ⟨vw, pwy, hvw, lpw, dvw⟩ := hv2 here hin11
          have dvw15 : Dp K (upd H15 F (.dK (putK k1 (Sum.inl ((st.other here : Nat) : Int)) v15))) vw (wayD pwy) := Dp.fx ((ExF.of (e13.trans e14)).trans ef15) (noList_way _) dvw
          -- ways[there] = ways[here] + ((index, here),)
          refine p_dput (P := pD K (wayD (pwy ++ [(j, here)]))) (k := (st.other here : Nat)) (ep_wayCat ((ep_dget (v := vw) (ep_vv rfl) (ep_vi (n := (here : Int)) rfl) hY15 hvw).imp fun v' H' e' p' => by
            obtain rfl : v' = vw := p'
            exact Dp.up e' dvw15) (ep_way1 (ep_vi rfl) (ep_vi rfl)) (by rw [List.length_singleton]; omega)) (ep_vv rfl) (ep_vi rfl) hY15 lk2 fun v16 H16 e16 p16 => ?_
          have hY16 := e16 _ _ hY15
          have ef16 : ExF (upd H15 F (.dK (putK k1 (Sum.inl ((st.other here : Nat) : Int)) v15))) (upd H16 Y (.dK (putK k2 (Sum.inl ((st.other here : Nat) : Int)) v16))) := (ExF.of e16).trans (ExF.upd hY16 rfl)
          have ex15 : Ex H (upd H15 F (.dK (putK k1 (Sum.inl ((st.other here : Nat) : Int)) v15))) := Ex.mut (i14.ex.trans e15) i14.nF
          have ex16 : Ex H (upd H16 Y (.dK (putK k2 (Sum.inl ((st.other here : Nat) : Int)) v16))) := Ex.mut (ex15.trans e16) i14.nY
          obtain ⟨hrt, pr, hpr, hsc⟩ := i14.tr here hin11
          have i16 : ScI cE K ss n H (upd H16 Y (.dK (putK k2 (Sum.inl ((st.other here : Nat) : Int)) v16))) F Y (fs3 ++ [st.other here]) (hs ++ [h]) (fun x => if x = st.other here then rt3 here else rt3 x) (fun x => if x = st.other here then sc3 here * st.held here / st.r else sc3 x) := by
            refine i14.put (p := pwy ++ [(j, here)]) (v1 := v15) hF14 (e14 _ _ (e13 _ _ hY12)) hnt hol ex16 (ef15.trans ef16) ?_ upd_same ?_ ?_ ?_ ?_ hrt ?_ (fun x hx => hx) (fun x hx => List.mem_append_left _ (i14.hin x hx))
            · rw [upd_ne hFY]
              exact e16 _ _ upd_same
            · exact fx_E.fx ((ExF.upd hF15 rfl).trans ef16) p15
            · exact Dp.fx (ExF.upd hY16 rfl) (noList_way _) p16
            · rw [List.length_append, List.length_singleton]; omega
            · exact (sz_div (sz_mul (i14.sz here hin11) (so.held here)) so.sr so.r0).mono (by omega)
            · refine ⟨pr ++ [(j, here)], hpr.step hst ht, ?_⟩
              rw [wt_snoc, fac_at hst, hsc, Rat.div_def, Rat.div_def, Rat.mul_assoc]
          have nWF : W ≠ F := ne_of (e12 _ _ hW11) hF12 (by intro z; cases z)
          have nWY : W ≠ Y := ne_of (e12 _ _ hW11) hY12 (by intro z; cases z)
          have hW16 : (upd H16 Y (.dK (putK k2 (Sum.inl ((st.other here : Nat) : Int)) v16))) W = some (.lst ((ofN ws3).map V.int)) := by
            rw [upd_ne nWY]
            refine e16 _ _ ?_
            rw [upd_ne nWF]
            exact e15 _ _ (e14 _ _ (e13 _ _ (e12 _ _ hW11)))
          have hPL16 : (upd H16 Y (.dK (putK k2 (Sum.inl ((st.other here : Nat) : Int)) v16))) PL = some (.lst xs) := by
            rw [upd_ne nePY]
            refine e16 _ _ ?_
            rw [upd_ne nePF]
            exact e15 _ _ (e14 _ _ (e13 _ _ (e12 _ _ hPL11)))
          have lw3 : ((ofN ws3).map V.int).length < 100000 := by rw [List.length_map, ofN_len]; omega
          refine p_app1 (P := pI (st.other here : Nat)) hW16 (ep_vv rfl) (ep_vi rfl) lw3 fun v17 H17 e17 p17 => ?_
          obtain rfl : v17 = V.int (st.other here : Nat) := p17
          have hW17 := e17 _ _ hW16
          have i17 := (i16.up e17).lst (ys := (ofN ws3).map V.int ++ [V.int (st.other here : Nat)]) hW17 nWH
          have hsn : (ofN ws3).map V.int ++ [V.int (st.other here : Nat)] = (ofN (ws3 ++ [st.other here])).map V.int := by rw [ofN_snoc, List.map_append]; rfl
          have l8' := nodup_lt i17.nd i17.lt
          refine ⟨fs3 ++ [st.other here], _, _, ws3 ++ [st.other here], _, _, _, rfl, i17, ?_, ?_, ?_, ?_, ?_, ?_, ?_, ?_, ?_, ?_⟩
          · exact (((ef11.trans (ExF.of ((e12.trans e13).trans e14))).trans ef15).trans ef16).trans ((ExF.of e17).trans (ExF.upd hW17 rfl))
          · rw [upd_ne nPW]
            exact e17 _ _ hPL16
          · rw [hsn]
            exact upd_same
          · intro b hb
            rcases List.mem_append.mp hb with q | q
            · exact List.mem_append_left _ (wf11 b q)
            · exact List.mem_append_right _ q
          · intro c hc
            rcases List.mem_append.mp hc with q | q
            · exact fin11 c q
            · rw [List.mem_singleton.mp q]
              obtain ⟨l2, h1, h2⟩ := fin11 here hin11
              refine ⟨l2, h1, ?_⟩
              obtain ⟨a2, _, hc2⟩ := hp.comp l2 (List.mem_of_mem_take h1)
              exact (hc2 _).mpr (((hc2 _).mp h2).step hadj)
          · exact fun c hc => List.mem_append_left _ (sub11 c hc)
          · exact List.mem_append_left _ hin11
          · intro c hc hn hne y hcy
            rcases List.mem_append.mp hc with q | q
            · exact List.mem_append_left _ (cl11 c q (fun z => hn (List.mem_append_left _ z)) hne y hcy)
            · exact absurd (List.mem_append_right _ q) hn
          · intro q st' hq hst' ht'
            by_cases hqj : q < j
            · exact List.mem_append_left _ (ks11 q st' hqj hst' ht')
            · have : q = j := by omega
              subst this
              rw [hst] at hst'
              cases hst'
              simp
          · rw [List.length_append, List.length_append, List.length_singleton]
            rw [List.length_append, List.length_singleton] at l8'
            omega
        · refine ⟨fs3, rt3, sc3, ws3, _, _, a8, rfl, i12.up e13, ef11.trans (ExF.of (e12.trans e13)), e13 _ _ (e12 _ _ hPL11), e13 _ _ (e12 _ _ hW11), wf11, fin11, sub11, hin11, cl11, fun q st' hq hst' ht' => ?_, hm11⟩
          by_cases hqj : q < j
          · exact ks11 q st' hqj hst' ht'
          · have : q = j := by omega
            subst this
            rw [hst] at hst'
            cases hst'
            rw [Bool.and_eq_false_iff] at hb
            rcases hb with hb | hb
            · rw [tch.mpr ht'] at hb
              cases hb
            · refine hmem.mp ?_
              cases hc : (valV k1 (Sum.inl ((st.other here : Nat) : Int))).isSome with
              | true => rfl
              | false => rw [hc] at hb; cases hb
      · rintro σ' H11 ⟨fs3, rt3, sc3, ws3, a6, a7, a8, rfl, i11, ef11, hPL11, hW11, wf11, fin11, sub11, hin11, cl11, ks11, hm11⟩
        refine ⟨2 * (8 - fs3.length) + ws3.length, by omega, fs3, rt3, sc3, ws3, _, a6, a7, a8, rfl, i11, ef11, hPL11, hW11, wf11, fin11, sub11, fun x hx hn y hxy => ?_, Nat.le_refl _, by omega⟩
        by_cases hxh : x = here
        · subst hxh
          obtain ⟨q, st, h1, h2, h3⟩ := adj_step (fun s hs => (hok.ok s hs).ne) hxy
          have hq : q < xw.length := by
            rw [hw.len]
            exact (List.getElem?_eq_some_iff.mp h1).1
          rw [← h3]
          exact ks11 q st hq h1 h2
        · exact cl11 x hx hn hxh y hxy
    · have hne : ws = [] := by
        cases ws with
        | nil => rfl
        | cons => cases hb
      subst hne
      refine ⟨fs2, hs ++ [h], rt2, sc2, _, _, b5, b6, b7, b8, rfl, i8.up e9, ef8.trans (ExF.of e9), e9 _ _ hPL8, fin8, fun l hl => ?_, fun x hx y hxy => cl8 x hx (by simp) y hxy, sep6⟩
      rw [htk] at hl
      rcases List.mem_append.mp hl with q | q
      · obtain ⟨c, h1, h2⟩ := lin l q
        exact ⟨c, h1, sub8 c (List.mem_append_left _ h2)⟩
      · rw [List.mem_singleton.mp q]
        exact ⟨h, by simp, sub8 h (by simp)⟩
  · rintro σ' H4 ⟨fs, hs, rt, sc, a3, a4, a5, a6, a7, a8, rfl, i4, ef4, hPL4, fin, lin, cl, sep⟩
    rw [hxl, List.take_length] at lin
    have all : ∀ w, w < n → w ∈ fs := fun w hw' => by
      obtain ⟨l, hl, hwl⟩ := hp.all w hw'
      obtain ⟨h, h1, h2⟩ := lin l hl
      obtain ⟨a, ha, hcl⟩ := hp.comp l hl
      exact (((hcl h).mp h1).symm.trans ((hcl w).mp hwl)).closed (S := fun b => b ∈ fs) h2 fun x y hx => cl x hx y
    obtain ⟨k1, hF4, hk1, hv1⟩ := i4.hF
    refine p_ret (P := pT K [pV (.ref F), pV (.ref Y)]) (ep_tup (ea_cons (ep_vv rfl) (ea_cons (ep_vv rfl) ea_nil)) (by simp)) fun v5 H5 e5 p5 => k _ _ (i4.ex.trans e5) ?_
    obtain ⟨t, ys, rfl, ht, x1, _, rfl, q1, x2, _, rfl, q2, er⟩ := p5
    cases er
    cases q1
    cases q2
    refine ⟨t, F, Y, k1, rt, sc, rfl, ht, e5 _ _ hF4, fun w hw' => ?_, ⟨fun w hw' => ⟨(i4.sz w (all w hw')).mono ?_, (i4.tr w (all w hw')).2⟩, fun a b hab => ?_⟩⟩
    · obtain ⟨v, h1, h2⟩ := hv1 w (all w hw')
      exact ⟨v, h1, PD.up _ e5 h2⟩
    · have := nodup_lt i4.nd i4.lt
      omega
    · have ha := (hab.lt hok).1
      have hb := (hab.lt hok).2
      obtain ⟨h1, p1, h2, _⟩ := i4.tr a (all a ha)
      obtain ⟨h3, p3, h4, _⟩ := i4.tr b (all b hb)
      exact sep _ h1 _ h3 ((h2.conn.step hab).trans h4.conn.symm)
end
end K43
set_option Elab.async false
set_option linter.all false
set_option maxRecDepth 100000
set_option maxHeartbeats 4000000
/-! k43, part FA: uneven_stall, fit_exact, fit. -/
namespace K43
open PySem PySem.Spec L2 Evl C8
def Bal (ss : List Stl) (sc : Nat → Rat) : Prop := ∀ s ∈ ss, sc s.u * s.a / s.r = sc s.v
def pOptB (ss : List Stl) (sc : Nat → Rat) : PD := ⟨fun v _ => (Bal ss sc → v = .non) ∧ (¬ Bal ss sc → ∃ i, v = .int i), fun _ h => h⟩
def pScD (C : Addr) (n : Nat) (sc : Nat → Rat) : PD := ⟨fun v H => ∃ F kvs, v = .ref F ∧ H F = some (.dK kvs) ∧ ∀ w, w < n → ∃ v, valV kvs (Sum.inl (w : Int)) = some v ∧ (pE C (sc w)).p v H,
  fun e ⟨F, kvs, h1, h2, h3⟩ => ⟨F, kvs, h1, e _ _ h2, fun w hw => (h3 w hw).imp fun v q => ⟨q.1, PD.up _ e q.2⟩⟩⟩
section
variable {K : PySem.W.Frag} {σ : L2.St} {H : Hp} {te : TE} {P : PD}
theorem ep_isN {b : Bool} (h : EvP te σ H P) (k : ∀ v H', P.p v H' → (v = .non ↔ b = true)) : EvP (tIsN te) σ H (pB b) := fun H1 e Q q => h H1 e _ fun v H2 e2 p => by
  have hk := k v H2 p
  have hb : decide (v = .non) = b := by
    cases b with
    | true => exact decide_eq_true (hk.mpr rfl)
    | false => exact decide_eq_false fun z => by cases hk.mp z
  rw [hb]
  exact q _ H2 e2 rfl
theorem ep_notN {b : Bool} (h : EvP te σ H P) (k : ∀ v H', P.p v H' → (v = .non ↔ b = true)) : EvP (tNotN te) σ H (pB (!b)) := fun H1 e Q q => h H1 e _ fun v H2 e2 p => by
  have hk := k v H2 p
  have hb : decide (v = .non) = b := by
    cases b with
    | true => exact decide_eq_true (hk.mpr rfl)
    | false => exact decide_eq_false fun z => by cases hk.mp z
  rw [hb]
  exact q _ H2 e2 rfl
theorem ep_dgetP {td ty : TE} {d : Addr} {kvs : List (Key × V)} {k : Int} {v : V} (h1 : EvP td σ H (pV (.ref d))) (h2 : EvP ty σ H (pI k)) (hd : H d = some (.dK kvs)) (hv : valV kvs (.inl k) = some v) (p : P.p v H) : EvP (tDGet td ty) σ H P :=
  (ep_dget h1 h2 hd hv).imp fun v' H' e p' => by
    obtain rfl : v' = v := p'
    exact PD.up _ e p
end
section
variable {P : Program} {w : World} {K : PySem.W.Frag} {mg : Str → Option Value} {base : Heap} {cE cW : Addr} {σ : L2.St} {H : Hp} {te tx : TE}
def spUneven (K : PySem.W.Frag) (cE cW : Addr) : Sp := spF (fun (x : (Nat × List Stl) × (Nat → Rat)) => [pW K cW x.1.1 x.1.2, pScD cE x.1.1 x.2]) (fun x => pOptB x.1.2 x.2) (fun x => WOk x.1.1 x.1.2 ∧ ∀ w, w < x.1.1 → Sz 1700 (x.2 w))
theorem ok29 (T : Txt K mg cE cW) : Cal P w K mg base 7 "uneven_stall" (spUneven K cE cW) [] := by
  have sc0 : FnScope ["web", "found", "index", "stall"] ["web", "found"] (defScope (top 29)) := ⟨rfl, rfl, rfl, by decide +kernel, rfl, by decide +kernel, by decide +kernel⟩
  refine T.d29.cal sc0 (spF_len fun _ => rfl) fun cdv f A outer s H vs Q E hr h => ?_
  obtain ⟨⟨⟨n, ss⟩, sc⟩, ⟨hok, hsz⟩, ⟨v, rs, rfl, pw, v2, rs2, rfl, pf, e⟩, k⟩ := h
  cases e
  replace hok : WOk n ss := hok
  replace pw : (pW K cW n ss).p v H := pw
  have hu := hu_of hr
  obtain ⟨F, kvs, rfl, hF, hv⟩ := pf
  obtain ⟨tw, xw, hw⟩ := id pw
  refine ⟨_, pss_cons (ps_for PassesOwn.never rfl (pi_enumT (by rfl) T.b_enum (pa_cons (pe_fld (pv 0) rfl) pa_nil)) (pg_tup rfl (pgs_cons (pg_name (i := 2) sc0.nd rfl (.inl rfl)) (pgs_cons (pg_name (i := 3) sc0.nd rfl (.inl rfl)) pgs_nil)))
      (pss_one (ps_if (pt_cmpR (op_neE T hr (by decide)) (pe_c (ok27 T) hr (by decide) rfl (pa_cons (pv 3) (pa_cons (pe_ix ix_tup (pv 3) pe_int (fun _ _ => rfl)) (pa_cons (pe_dget hu (pv 1) (pe_ix ix_tup (pv 3) pe_int (fun _ _ => rfl)) (fun _ _ => rfl)) pa_nil)))) (pe_dget hu (pv 1) (pe_ix ix_tup (pv 3) pe_int (fun _ _ => rfl)) (fun _ _ => rfl)) (nomark _)) (pss_one (ps_ret (pv 2))) pss_nil)))
    (pss_one (ps_ret pe_non)), ?_⟩
  refine p_enumT (H0 := H) (ea_cons (ep_stalls T rfl hw) ea_nil) hw.tp (Ex.refl H) (fun j σ' H' => (∃ a2 a3, σ' = [some v, some (.ref F), a2, a3]) ∧ Ex H H' ∧ ∀ (q : Nat) st, q < j → ss[q]? = some st → sc st.u * st.a / st.r = sc st.v) (fun H1 e1 => ⟨⟨none, none, rfl⟩, e1, fun q st hq => absurd hq (Nat.not_lt_zero _)⟩) (fun j σ' H' h => h.2.1) ?_ ?_
  · rintro j x σ' H1 H2 hj ⟨⟨a2, a3, rfl⟩, e1, ks⟩ e2
    obtain ⟨st, hst, pst⟩ := hw.stl hj
    have so := hok.ok st (List.mem_of_getElem? hst)
    have e02 := e1.trans e2
    have pst2 := PD.up _ e02 pst
    obtain ⟨vu, hvu, pu⟩ := hv st.u so.hu
    obtain ⟨vv, hvv, pv'⟩ := hv st.v so.hv
    have hF2 := e02 _ _ hF
    have hh : st.held st.u = st.a := by unfold Stl.held; rw [if_pos rfl]
    refine s_when (pt_test (ep_op (ep_call (st, st.u, sc st.u) ⟨⟨n, so⟩, hsz _ so.hu⟩ (ea_cons (ep_var rfl pst2) (ea_cons (ep_ixI (i := 0) (ep_var rfl pst2) ep_i rfl) (ea_cons (ep_dgetP (P := pE cE (sc st.u)) (ep_vv rfl) (ep_ixI (i := 0) (n := (st.u : Nat)) (ep_var rfl pst2) ep_i rfl) hF2 hvu (PD.up _ e02 pu)) ea_nil))))
      (ep_dgetP (P := pE cE (sc st.v)) (ep_vv rfl) (ep_ixI (i := 1) (n := (st.v : Nat)) (ep_var rfl pst2) ep_i rfl) hF2 hvv (PD.up _ e02 pv')) rp_neE)) (fun hb H3 e3 => ?_) (fun hb H3 e3 => ?_)
    · refine p_ret (P := pI (j : Nat)) (ep_vi rfl) fun v5 H5 e5 p5 => k _ _ ((e02.trans e3).trans e5) ⟨fun hB => ?_, fun _ => ⟨_, p5⟩⟩
      have := hB st (List.mem_of_getElem? hst)
      rw [hh] at hb
      simp [this] at hb
    · refine ⟨⟨_, _, rfl⟩, e02.trans e3, fun q st' hq hst' => ?_⟩
      by_cases hqj : q < j
      · exact ks q st' hqj hst'
      · have : q = j := by omega
        subst this
        rw [hst] at hst'
        cases hst'
        rw [hh] at hb
        simpa using hb
  · rintro σ' H1 ⟨⟨a2, a3, rfl⟩, e1, ks⟩
    have hB : Bal ss sc := fun st hst => by
      obtain ⟨q, hq⟩ := List.getElem?_of_mem hst
      refine ks q st ?_ hq
      rw [hw.len]
      exact (List.getElem?_eq_some_iff.mp hq).1
    exact k _ _ e1 ⟨fun _ => rfl, fun z => absurd hB z⟩
theorem ep_unev {n : Nat} {ss : List Stl} {sc : Nat → Rat} {E : XK} {ta : TA} (hok : WOk n ss) (hsz : ∀ w, w < n → Sz 1700 (sc w)) (ha : EvPA ta σ H [pW K cW n ss, pScD cE n sc]) : EvP (tCall (spUneven K cE cW) [] E ta) σ H (pOptB ss sc) :=
  ep_callS ha (spp (α := (Nat × List Stl) × (Nat → Rat)) ((n, ss), sc) ⟨hok, hsz⟩)
def pFitE (K : PySem.W.Frag) (C : Addr) (n : Nat) (ss : List Stl) : PD := ⟨fun v H => ∃ rt sc, Tree ss n rt sc ∧ ((¬ Bal ss sc ∧ v = .non) ∨ (Bal ss sc ∧ (pL K ((List.range n).map fun w => pE C (sc w))).p v H)),
  fun e ⟨rt, sc, h1, h2⟩ => ⟨rt, sc, h1, h2.imp id fun q => ⟨q.1, PD.up _ e q.2⟩⟩⟩
def spFitE (K : PySem.W.Frag) (cE cW : Addr) : Sp := spF (fun (x : Nat × List Stl) => [pW K cW x.1 x.2]) (fun x => pFitE K cE x.1 x.2) (fun x => WOk x.1 x.2)
theorem ok30 (T : Txt K mg cE cW) : Cal P w K mg base 9 "fit_exact" (spFitE K cE cW) [] := by
  have sc0 : FnScope ["web", "found", "ways", "ware"] ["web"] (defScope (top 30)) := ⟨rfl, rfl, rfl, by decide +kernel, rfl, by decide +kernel, by decide +kernel⟩
  refine T.d30.cal sc0 (spF_len fun _ => rfl) fun cdv f A outer s H vs Q E hr h => ?_
  obtain ⟨⟨n, ss⟩, hok, ⟨v, rs, rfl, pw, e⟩, k⟩ := h
  cases e
  replace hok : WOk n ss := hok
  replace pw : (pW K cW n ss).p v H := pw
  have hu := hu_of hr
  have n8 := hok.n8
  obtain ⟨tw, xw, hw⟩ := id pw
  refine ⟨_, pss_cons (ps_asg (pe_c (ok28 T) hr (by decide) rfl (pa_cons (pv 0) pa_nil)) (pg_tup rfl (pgs_cons (pg_name (i := 1) sc0.nd rfl (.inr rfl)) (pgs_cons (pg_name (i := 2) sc0.nd rfl (.inl rfl)) pgs_nil))))
    (pss_cons (ps_if (pt_cmp (pc_notN (pe_c (ok29 T) hr (by decide) rfl (pa_cons (pv 0) (pa_cons (pv 1) pa_nil))))) (pss_one (ps_ret pe_non)) pss_nil)
    (pss_one (ps_ret (pe_lc (own := [("ware", 3)]) (g := gName 3) (by rfl) sc0.nd (pi_range1 rfl T.b_range (pa_cons (pe_fld (pv 0) rfl) pa_nil)) (blkOk_by (N := ["web", "found", "ways", "ware"]) (sc := defScope (top 30)) (by decide +kernel)) (fun _ _ _ _ _ => pg_name (i := 3) sc0.nd rfl (.inl rfl)) (fun _ _ _ _ _ => pts_nil)
        (fun _ _ _ _ _ => pe_dget hu (pv 1) (pv 3) (fun _ _ => rfl)))))), ?_⟩
  refine (show EvP (tCall (spScales K cE cW) [] L2.E0 (tCons (tVar 0) tNil)) [some v, none, none, none] H (pScales K cE n ss) from ep_call (n, ss) hok (ea_cons (ep_var rfl pw) ea_nil)) H (Ex.refl H) _ fun v1 H1 e1 p1 => ?_
  obtain ⟨t, F, Y, kvs, rt, sc, rfl, ht, hF, hv, tr⟩ := p1
  refine ⟨t, _, rfl, ht, rfl, _, _, rfl, _, _, rfl, rfl, ?_⟩
  have pf : (pScD cE n sc).p (.ref F) H1 := ⟨F, kvs, rfl, hF, hv⟩
  have hsz : ∀ w, w < n → Sz 1700 (sc w) := fun w hw => (tr.tr w hw).1
  rcases Classical.em (Bal ss sc) with hB | hB
  · refine p_pass (pt_B (ep_notN (P := pOptB ss sc) (b := true) (ep_unev hok hsz (ea_cons (ep_var rfl (PD.up _ e1 pw)) (ea_cons (ep_var rfl pf) ea_nil))) fun v2 H2 p2 => ⟨fun _ => rfl, fun _ => p2.1 hB⟩)) fun H2 e2 => ?_
    have e02 := e1.trans e2
    refine p_ret (ep_lcRa (K := K) (n := n) (res := fun w => pE cE (sc w)) (ea_cons (ep_wares T rfl (hw.up e02)) ea_nil) (by omega) (fun _ => rfl) (fun i hi H3 e3 => ?_) (fun i hi => st_E)) fun v3 H3 e3 p3 => k _ _ (e02.trans e3) ⟨rt, sc, tr, .inr ⟨hB, p3⟩⟩
    obtain ⟨vi, h1, h2⟩ := hv i hi
    exact ep_dgetP (ep_vv rfl) (ep_vi (n := (i : Nat)) rfl) (e3 _ _ (e2 _ _ hF)) h1 (PD.up _ (e2.trans e3) h2)
  · refine q_when (b := true) (pt_B (ep_notN (P := pOptB ss sc) (b := false) (ep_unev hok hsz (ea_cons (ep_var rfl (PD.up _ e1 pw)) (ea_cons (ep_var rfl pf) ea_nil))) fun v2 H2 p2 => ⟨fun z => (by
      obtain ⟨i, hi⟩ := p2.2 hB
      rw [hi] at z
      cases z), fun z => nomatch z⟩)) (fun _ H2 e2 => ?_) (fun z => by cases z)
    exact k _ _ (e1.trans e2) ⟨rt, sc, tr, .inl ⟨hB, rfl⟩⟩
def pFit (n : Nat) (ss : List Stl) : PD := ⟨fun v H => ∃ rt sc, Tree ss n rt sc ∧ ((¬ Bal ss sc ∧ v = .non) ∨ (Bal ss sc ∧ ∃ a, v = .ref a)), fun _ h => h⟩
def spFit (K : PySem.W.Frag) (cW : Addr) : Sp := spF (fun (x : Nat × List Stl) => [pW K cW x.1 x.2]) (fun x => pFit x.1 x.2) (fun x => WOk x.1 x.2)
theorem ok31 (T : Txt K mg cE cW) : Cal P w K mg base 10 "fit" (spFit K cW) [] := by
  have sc0 : FnScope ["web", "found", "scale"] ["web"] (defScope (top 31)) := ⟨rfl, rfl, rfl, by decide +kernel, rfl, by decide +kernel, by decide +kernel⟩
  refine T.d31.cal sc0 (spF_len fun _ => rfl) fun cdv f A outer s H vs Q E hr h => ?_
  obtain ⟨⟨n, ss⟩, hok, ⟨v, rs, rfl, pw, e⟩, k⟩ := h
  cases e
  replace hok : WOk n ss := hok
  replace pw : (pW K cW n ss).p v H := pw
  have n8 := hok.n8
  refine ⟨_, pss_cons (ps_set (i := 1) sc0.nd rfl (.inl rfl) (pe_c (ok30 T) hr (by decide) rfl (pa_cons (pv 0) pa_nil)))
    (pss_one (ps_ret (pe_ifExp (pt_cmp (pc_isN (pv 1))) pe_non (pe_callTy call_tuple_of (by rfl) T.b_tuple (by decide +kernel) (pa_cons (pe_lc (own := [("scale", 2)]) (g := gName 2) (by rfl) sc0.nd (pi_list (pv 1)) (blkOk_by (N := ["web", "found", "scale"]) (sc := defScope (top 31)) (by decide +kernel)) (fun _ _ _ _ _ => pg_name (i := 2) sc0.nd rfl (.inl rfl)) (fun _ _ _ _ _ => pts_nil)
        (fun _ _ _ _ _ => pe_mt0 (okPair T) hr (by decide) (pv 2))) pa_nil))))), ?_⟩
  refine p_asg (P := pFitE K cE n ss) (ep_call (n, ss) hok (ea_cons (ep_var rfl pw) ea_nil)) fun v1 H1 e1 p1 => ?_
  obtain ⟨rt, sc, tr, ⟨hB, rfl⟩ | ⟨hB, pl⟩⟩ := p1
  · refine p_ret (P := pV .non) (ep_if (b := true) (pt_B (ep_isN (P := pV .non) (ep_vv rfl) fun v H' p => ⟨fun _ => rfl, fun _ => p⟩)) (fun _ => ep_c) (fun z => by cases z)) fun v2 H2 e2 p2 => k _ _ (e1.trans e2) ⟨rt, sc, tr, .inl ⟨hB, p2⟩⟩
  · obtain ⟨a, xs, rfl, hl⟩ := id pl
    refine p_ret (P := pT K ((List.range n).map fun w => pT K [pI (sc w).num, pI ((sc w).den : Nat)])) (ep_if (b := false) (pt_B (ep_isN (P := pV (.ref a)) (ep_vv rfl) fun v H' p => ⟨fun z => (by rw [show v = V.ref a from p] at z; cases z), fun z => nomatch z⟩)) (fun z => nomatch z) (fun _ => ep_cb (ea_cons ?_ ea_nil) cp_tupleL)) fun v2 H2 e2 p2 => k _ _ (e1.trans e2) ⟨rt, sc, tr, .inr ⟨hB, p2.imp fun b q => q.choose_spec.1⟩⟩
    refine ep_lcLa (src := fun w => pE cE (sc w)) (ep_var rfl pl) (by rw [List.length_range]; omega) (fun _ => rfl) (fun b hb x H3 e3 px => ep_pair (ep_var rfl px)) (fun b hb => st_T (by
      intro P hP
      simp only [List.mem_cons, List.not_mem_nil, or_false] at hP
      rcases hP with rfl | rfl <;> exact st_I))
end
end K43
set_option Elab.async false
set_option linter.all false
set_option maxRecDepth 100000
set_option maxHeartbeats 4000000
/-! k43, part S5: rings, in plain words; more about loops. -/
namespace K43
open PySem PySem.Spec L2 Evl C8

def otherAt (ss : List Stl) (x : Nat × Nat) : Nat := match ss[x.1]? with
  | some s => s.other x.2
  | none => 0
def heldAt (ss : List Stl) (x : Nat × Nat) : Rat := match ss[x.1]? with
  | some s => s.held x.2
  | none => 1
theorem otherAt_at {ss : List Stl} {i b : Nat} {s : Stl} (h : ss[i]? = some s) : otherAt ss (i, b) = s.other b := by
  unfold otherAt
  rw [h]
theorem heldAt_at {ss : List Stl} {i b : Nat} {s : Stl} (h : ss[i]? = some s) : heldAt ss (i, b) = s.held b := by
  unfold heldAt
  rw [h]
def IsRing (ss : List Stl) (r : Way) : Prop := ∃ a, IsWalk ss a r a ∧ 2 ≤ r.length ∧ (r.map (·.1)).Nodup ∧ (r.map (·.2)).Nodup
theorem IsWalk.head {ss : List Stl} {a b : Nat} {r : Way} (h : IsWalk ss a r b) : (r.map (·.2) ++ [b])[0]? = some a := by
  induction h with
  | nil => rfl
  | step hp hs ht ih =>
    rw [List.map_append, List.getElem?_append_left (by simp)]
    exact ih
theorem IsWalk.at {ss : List Stl} {a b : Nat} {r : Way} (h : IsWalk ss a r b) : ∀ (k : Nat) (x : Nat × Nat), r[k]? = some x → ∃ s, ss[x.1]? = some s ∧ s.touch x.2 ∧ (r.map (·.2) ++ [b])[k + 1]? = some (s.other x.2) := by
  induction h with
  | nil => intro k x hx; simp at hx
  | @step b i p s hp hs ht ih =>
    intro k x hx
    by_cases hk : k < p.length
    · rw [List.getElem?_append_left hk] at hx
      obtain ⟨s', h1, h2, h3⟩ := ih k x hx
      refine ⟨s', h1, h2, ?_⟩
      rw [List.map_append, List.getElem?_append_left (by simp; omega)]
      exact h3
    · have hk2 : k = p.length := by
        have := (List.getElem?_eq_some_iff.mp hx).1
        rw [List.length_append, List.length_singleton] at this
        omega
      subst hk2
      rw [List.getElem?_append_right (Nat.le_refl _), Nat.sub_self] at hx
      cases hx
      refine ⟨s, hs, ht, ?_⟩
      rw [List.getElem?_append_right (by simp)]
      simp
theorem IsWalk.touch {n : Nat} {ss : List Stl} {a b : Nat} {r : Way} (h : IsWalk ss a r b) (hok : WOk n ss) {x : Nat × Nat} (hx : x ∈ r) : x.1 < ss.length ∧ x.2 < n := by
  obtain ⟨k, hk⟩ := List.getElem?_of_mem hx
  obtain ⟨s, h1, h2, _⟩ := h.at k x hk
  refine ⟨(List.getElem?_eq_some_iff.mp h1).1, ?_⟩
  have so := hok.ok s (List.mem_of_getElem? h1)
  have := so.hu
  have := so.hv
  rcases h2 with h2 | h2 <;> omega
theorem IsRing.later {ss : List Stl} {r : Way} (h : IsRing ss r) : ∀ (k : Nat) (x y : Nat × Nat), r[k]? = some x → (r.drop 1 ++ r.take 1)[k]? = some y → ∃ s, ss[x.1]? = some s ∧ s.touch x.2 ∧ s.other x.2 = y.2 := by
  obtain ⟨a, hw, hl, _, _⟩ := h
  intro k x y hx hy
  obtain ⟨s, h1, h2, h3⟩ := hw.at k x hx
  refine ⟨s, h1, h2, ?_⟩
  have hh := hw.head
  have e : (r.map (·.2) ++ [a])[k + 1]? = ((r.drop 1 ++ r.take 1).map (·.2))[k]? := by
    cases r with
    | nil => simp at hl
    | cons z r' =>
      simp only [List.map_cons, List.cons_append, List.getElem?_cons_zero, Option.some.injEq] at hh
      simp [hh]
  rw [e, List.getElem?_map, hy] at h3
  exact (Option.some.inj h3).symm
theorem IsRing.len {n : Nat} {ss : List Stl} {r : Way} (h : IsRing ss r) (hok : WOk n ss) : r.length ≤ 8 := by
  obtain ⟨a, hw, hl, _, h2⟩ := h
  have := nodup_lt h2 (n := n) fun b hb => by
    obtain ⟨x, hx, rfl⟩ := List.mem_map.mp hb
    exact (hw.touch hok hx).2
  rw [List.length_map] at this
  have := hok.n8
  omega
/-- the turnings, the way back, the least -/
def turns (r : Way) : List Way := (List.range r.length).map fun k => r.drop k ++ r.take k
def back (ss : List Stl) (r : Way) : Way := r.reverse.map fun x => (x.1, otherAt ss x)
def leastOf : List Way → Way
  | [] => []
  | x :: ws => minW x ws
def least (ss : List Stl) (r : Way) : Way := leastOf (turns r ++ turns (back ss r))
/-- uneven: held of the wares left, held of the wares come to -/
def hPro (ss : List Stl) (r : Way) : Rat := r.foldl (fun q x => q * heldAt ss x) 1
def tPro (ss : List Stl) (r : Way) : Rat := r.foldl (fun q x => q * heldAt ss (x.1, otherAt ss x)) 1
def uneven (ss : List Stl) (r : Way) : Bool := !decide (hPro ss r = tPro ss r)
/-- how a way may go on -/
def goes (ss : List Stl) (p : Way) (here : Nat) (i : Nat) : Bool := match ss[i]? with
  | some s => (decide (s.u = here) || decide (s.v = here)) && !decide (i ∈ p.map (·.1))
  | none => false
def exts (ss : List Stl) (p : Way) (here : Nat) : List (Way × Nat) := ((List.range ss.length).filter (goes ss p here)).map fun i => (p ++ [(i, here)], otherAt ss (i, here))

section
variable {K : PySem.W.Frag} {σ : L2.St} {H : Hp} {tl te : TE} {ta : TA} {D : Ends} {tu tz : TS} {g : TG}
theorem p_forTF {Ps : List PD} (h : EvP tl σ H (pT K Ps)) (Pv : Hp → Nat → L2.St → Hp → Prop) (h0 : ∀ H1, Ex H H1 → Pv H1 0 σ H1) (hx : ∀ H1 i σ' H', Pv H1 i σ' H' → ExF H1 H')
    (hs : ∀ H1 i P x σ' H', Ex H H1 → Ps[i]? = some P → P.p x H1 → Pv H1 i σ' H' → g x σ' H' fun σ2 H2 => tu { D with nx := Pv H1 (i + 1), ct := Pv H1 (i + 1), bk := tz D } σ2 H2)
    (hd : ∀ H1 σ' H', Ex H H1 → Pv H1 Ps.length σ' H' → tz D σ' H') : tSeq (tFor (iTup K tl) g tu) tz D σ H := p_forTF1 (D := { D with nx := tz D }) h Pv h0 hx hs hd
theorem walk_zipT {a b : Addr} {xs ys : List V} {n : Nat} (hn : n = min xs.length ys.length) : Walk (RZ.ItzT K a b) n (fun H => SqT K H a xs ∧ SqT K H b ys) (YPair (fun i => xs[i]?) (fun i => ys[i]?)) := by
  subst hn
  refine ⟨fun i _ hi q => ?_, fun _ q => ⟨xs, ys, q.1, q.2, by omega⟩, fun i H v H' _ q y => ?_⟩
  · have h1 : i < xs.length := by omega
    have h2 : i < ys.length := by omega
    exact ⟨xs, ys, xs[i], ys[i], q.1, q.2, by simp [h1], by simp [h2]⟩
  · obtain ⟨T, x, z, h1, h2, h3, h4, h5⟩ := y
    exact ⟨T, x, z, h1, h2, h3, h4 xs q.1, h5 ys q.2⟩
/-- [e for (a, b), c in zip(r, q)], all of them true -/
theorem ep_lcZ {r q : Way} {j1 j2 j3 : Nat} {vs : List Nat} (h : EvPA ta σ H [pD K (wayD r), pD K (wayD q)]) (hl : r.length = q.length) (hz : r.length ≤ 10000) (hw : ∀ x y z, wipe ((((wipe σ vs).set j1 (some x)).set j2 (some y)).set j3 (some z)) vs = wipe σ vs)
    (he : ∀ (k : Nat) a b c d, r[k]? = some (a, b) → q[k]? = some (c, d) → ∀ z H1, Ex H H1 → (pD K (pairD (c, d))).p z H1 → EvP te ((((wipe σ vs).set j1 (some (.int (a : Nat)))).set j2 (some (.int (b : Nat)))).set j3 (some z)) H1 (pB true)) :
    EvP (tLc (RZ.iZipA K ta) (gTup K 2 (gCons (gTup K 2 (gCons (gName j1) (gCons (gName j2) gNil))) (gCons (gName j3) gNil))) tYes te vs) σ H (pL K (((List.range r.length).map fun _ => true).map pB)) := fun H0 e Q qk => h H0 e _ fun ws H1 e1 ps => by
  obtain ⟨v1, _, rfl, p1, v2, _, rfl, p2, er⟩ := ps
  cases er
  obtain ⟨a, xs, rfl, hx, dx⟩ := Dp.tup_inv p1
  obtain ⟨b, ys, rfl, hy, dy⟩ := Dp.tup_inv p2
  have lx := DpAll.len dx
  have ly := DpAll.len dy
  rw [List.length_map] at lx ly
  have ef : ∀ l : List Nat, l.filter (fun _ => true) = l := fun l => List.filter_eq_self.mpr fun _ _ => rfl
  have e01 := e.trans e1
  refine ⟨a, b, xs, ys, rfl, .inr ⟨hx, hy, fun D hD => ?_⟩⟩
  refine lc_it (walk_zipT (n := r.length) (by omega)) (fun i H' => Cp H1 D ((((List.range r.length).take i).filter fun _ => true).map fun _ => pB true) H') ⟨hD, Ex.new hD, [], upd_same, by rw [List.take_zero]; rfl⟩ (fun i H' _ c => ⟨ex_t c.2.1 hx, ex_t c.2.1 hy⟩) (fun i x H' H'' hi c y => ?_) fun H' c => ?_
  · obtain ⟨Tt, x1, y1, rfl, hT, rfl, h1, h2⟩ := y
    obtain ⟨d1, hd1, pd1⟩ := DpAll.get dx h1
    obtain ⟨d2, hd2, pd2⟩ := DpAll.get dy h2
    rw [List.getElem?_map] at hd1 hd2
    cases er1 : r[i]? with
    | none => rw [er1] at hd1; cases hd1
    | some p1 =>
    cases er2 : q[i]? with
    | none => rw [er2] at hd2; cases hd2
    | some p2 =>
    rw [er1] at hd1
    rw [er2] at hd2
    cases hd1
    cases hd2
    obtain ⟨pa, pb⟩ := p1
    obtain ⟨pc, pd⟩ := p2
    have ec : Ex H1 (upd H' Tt (.tup [x1, y1])) := c.2.1.trans (Ex.new hT)
    obtain ⟨t1, us, rfl, hu1, du⟩ := Dp.tup_inv (show Dp K _ x1 (pairD (pa, pb)) from Dp.up ec pd1)
    cases du with | cons du1 du => cases du with | cons du2 du =>
    cases du
    cases du1
    cases du2
    refine ⟨Tt, _, rfl, SqT.of upd_same, rfl, _, _, rfl, ⟨t1, _, rfl, hu1, rfl, _, _, rfl, _, _, rfl, rfl, _, _, rfl, rfl, hw _ _ _, ?_⟩⟩
    have eb : (List.range r.length)[i]? = some i := by rw [List.getElem?_range hi]
    rw [take_map_filter eb]
    have c' : Cp H1 D ((((List.range r.length).take i).filter fun _ => true).map fun _ => pB true) (upd H' Tt (.tup [.ref t1, y1])) := by
      obtain ⟨c1, c2, acc, c3, c4⟩ := c
      exact ⟨c1, ec, acc, Ex.new hT _ _ c3, Alls.up (Ex.new hT) c4⟩
    exact cp_turn c' (len_tf (by rw [List.length_range]; exact hz)) et_yes (fun _ => he i pa pb pc pd er1 er2 y1 _ (e01.trans ec) (Dp.up ec pd2)) (fun _ => st_B) (mem_tf fun b _ _ => st_B)
  · have e5 : (List.range r.length).take r.length = List.range r.length := List.take_of_length_le (by rw [List.length_range]; exact Nat.le_refl _)
    rw [e5, ef] at c
    have := c.ret (K := K)
    exact qk _ H' (e1.trans c.2.1) (by rw [List.map_map]; exact this)
theorem ep_rev {ds : List PyData} (h : EvP te σ H (pD K (.tuple ds))) : EvP (tRevT K te) σ H (pD K (.tuple ds.reverse)) := fun H1 e Q q => h H1 e _ fun v H2 e2 p => by
  obtain ⟨a, xs, rfl, h1, h2⟩ := Dp.tup_inv p
  exact ⟨a, xs, rfl, h1, fun p hp => q _ _ (e2.trans (Ex.new hp)) (.tup (SqT.of upd_same) (DpAll.up (Ex.new hp) (DpAll.rev h2)))⟩
end
end K43
set_option Elab.async false
set_option linter.all false
set_option maxRecDepth 100000
set_option maxHeartbeats 4000000
/-! k43, part FB: is_ring, is_uneven_ring, turned_about, least_way, ways_on. -/
namespace K43
open PySem PySem.Spec L2 Evl C8
theorem idx_snoc {r : Way} {k : Nat} {x : Nat × Nat} (h : r[k]? = some x) : (r.take (k + 1)) = r.take k ++ [x] := by
  rw [List.take_add_one, h]
  rfl
theorem idx_new {r : Way} {k : Nat} {x : Nat × Nat} (hn : (r.map (·.1)).Nodup) (h : r[k]? = some x) : x.1 ∉ (r.take k).map (·.1) := by
  intro hm
  have e : (r.take (k + 1)).map (·.1) = (r.take k).map (·.1) ++ [x.1] := by rw [idx_snoc h, List.map_append]; rfl
  have hs : ((r.take (k + 1)).map (·.1)).Nodup := by
    rw [List.map_take]
    exact hn.sublist (List.take_sublist _ _)
  rw [e, List.nodup_append] at hs
  exact hs.2.2 _ hm _ (by simp) rfl
theorem stl_at {ss : List Stl} {i : Nat} {s : Stl} (h : ss[i]? = some s) : (ss.map stlD)[i]? = some (stlD s) := by rw [List.getElem?_map, h]; rfl
theorem canLay_pairs : ∀ r : Way, PyData.canLayAll0 (r.map pairD) = true
  | [] => by simp [PyData.canLayAll0]
  | x :: r => by
    rw [List.map_cons, PyData.canLayAll0, canLay_pairs r]
    simp [pairD, PyData.canLay0, PyData.canLayAll0]
theorem canLay_way (r : Way) : PyData.canLay0 (wayD r) = true := by
  unfold wayD
  rw [PyData.canLay0]
  exact canLay_pairs r
theorem canLay_ways : ∀ rs : List Way, PyData.canLayAll0 (rs.map wayD) = true
  | [] => by simp [PyData.canLayAll0]
  | r :: rs => by rw [List.map_cons, PyData.canLayAll0, canLay_ways rs, canLay_way]; rfl
theorem shaped_way (r : Way) : SeqAt.shaped (wayD r) = true := by
  unfold SeqAt.shaped
  rw [canLay_way]
  have := depth_way r
  simp only [Bool.true_and, decide_eq_true_iff]
  omega
theorem shaped_ways (rs : List Way) : SeqAt.shaped (.list (rs.map wayD)) = true := by
  unfold SeqAt.shaped
  rw [PyData.canLay0, canLay_ways, PyData.depth]
  have := depthAll_ways rs
  simp only [Bool.true_and, decide_eq_true_iff]
  omega
theorem shaped_nilT : SeqAt.shaped (.tuple []) = true := shaped_way []
section
variable {P : Program} {w : World} {K : PySem.W.Frag} {mg : Str → Option Value} {base : Heap} {cE cW : Addr} {σ : L2.St} {H : Hp} {te tx : TE}
/-- web.stalls[i] -/
theorem ep_stallAt (T : Txt K mg cE cW) {n : Nat} {ss : List Stl} {i : Nat} {s : Stl} {v : V} (hv : σ[0]? = some (some v)) (pw : (pW K cW n ss).p v H) (h : EvP tx σ H (pI (i : Nat))) (hs : ss[i]? = some s) : EvP (tOp (rIxT K) (tFld K (tVar 0) "stalls") tx) σ H (pD K (stlD s)) := by
  obtain ⟨t, xs, hw⟩ := pw
  exact ep_ixD (i := i) (ep_stallsD T hv hw) h (stl_at hs)
theorem ep_waresP (T : Txt K mg cE cW) {n : Nat} {ss : List Stl} {v : V} (hv : σ[0]? = some (some v)) (pw : (pW K cW n ss).p v H) : EvP (tFld K (tVar 0) "wares") σ H (pI (n : Nat)) := by
  obtain ⟨t, xs, hw⟩ := pw
  exact ep_wares T hv hw
theorem ep_stallsP (T : Txt K mg cE cW) {n : Nat} {ss : List Stl} {v : V} (hv : σ[0]? = some (some v)) (pw : (pW K cW n ss).p v H) : EvP (tFld K (tVar 0) "stalls") σ H (pD K (.tuple (ss.map stlD))) := by
  obtain ⟨t, xs, hw⟩ := pw
  exact ep_stallsD T hv hw
def spIsRing (K : PySem.W.Frag) (cW : Addr) : Sp := spF (fun (x : (Nat × List Stl) × Way) => [pW K cW x.1.1 x.1.2, pD K (wayD x.2)]) (fun _ => pB true) (fun x => WOk x.1.1 x.1.2 ∧ IsRing x.1.2 x.2)
theorem ok32 (T : Txt K mg cE cW) : Cal P w K mg base 3 "is_ring" (spIsRing K cW) [] := by
  have sc0 : FnScope ["web", "thing", "known", "pair", "later", "index", "ware"] ["web", "thing"] (defScope (top 32)) := ⟨rfl, rfl, rfl, by decide +kernel, rfl, by decide +kernel, by decide +kernel⟩
  refine T.d32.cal sc0 (spF_len fun _ => rfl) fun cdv f A outer s H vs Q E hr h => ?_
  obtain ⟨⟨⟨n, ss⟩, r⟩, ⟨hok, hring⟩, ⟨v, rs, rfl, pw, v2, rs2, rfl, pr, e⟩, k⟩ := h
  cases e
  replace hok : WOk n ss := hok
  replace hring : IsRing ss r := hring
  replace pw : (pW K cW n ss).p v H := pw
  replace pr : (pD K (wayD r)).p v2 H := pr
  have hu := hu_of hr
  have rl := hring.len hok
  obtain ⟨a, hwk, hl2, hn1, hn2⟩ := id hring
  refine ⟨_, pss_cons (ps_if (PW.pt (pw_or (pt_not (pt_val (pe_callB (call_isi) (by rfl) T.b_isi (by decide +kernel) (pa_cons (pv 1) (pa_cons (pe_bltn (v := .ty "tuple") (by rfl) T.b_tuple (by decide +kernel) rfl) (pa_nil)))))) (pw_or1 (pt_cmpR (op_eqD hr.units) (pv 1) (pe_tup pa_nil) (nomark _))))) (pss_one (ps_ret (pe_bl))) (pss_nil))
    (pss_cons (ps_set (i := 2) sc0.nd rfl (.inl rfl) (pe_dnewK))
    (pss_cons (ps_for PassesOwn.never rfl (pi_tup (pv 1)) (pg_name (i := 3) sc0.nd rfl (.inl rfl)) (pss_cons (ps_if (PW.pt (pw_or (pt_not (pt_val (pe_callB (call_isi) (by rfl) T.b_isi (by decide +kernel) (pa_cons (pv 3) (pa_cons (pe_bltn (v := .ty "tuple") (by rfl) T.b_tuple (by decide +kernel) rfl) (pa_nil)))))) (pw_or (pt_cmpR op_ne (pe_callB (call_len_seq) (by rfl) T.b_len (by decide +kernel) (pa_cons (pv 3) (pa_nil))) (pe_int) (nomark _)) (pw_or1 (pt_not (pt_val (pe_c (ok7 T) hr (by decide) rfl (pa_cons (pe_ix ix_tup (pv 3) (pe_int) (fun _ _ => rfl)) (pa_nil))))))))) (pss_one (ps_ret (pe_bl))) (pss_nil))
    (pss_cons (ps_if (PW.pt (pw_or (pt_not (pt_chain op_le op_lt (pe_int) (pe_ix ix_tup (pv 3) (pe_int) (fun _ _ => rfl)) (pe_callB (call_len_seq) (by rfl) T.b_len (by decide +kernel) (pa_cons (pe_fld (pv 0) rfl) (pa_nil))))) (pw_or (pt_cmp (pc_din hu (pe_ix ix_tup (pv 3) (pe_int) (fun _ _ => rfl)) (pv 2))) (pw_or1 (pt_not (pt_val (pe_c (ok17 T) hr (by decide) rfl (pa_cons (pe_ix ix_tup (pv 3) (pe_int) (fun _ _ => rfl)) (pa_cons (pe_fld (pv 0) rfl) (pa_nil)))))))))) (pss_one (ps_ret (pe_bl))) (pss_nil))
    (pss_cons (ps_dput hu (pv 2) (pe_ix ix_tup (pv 3) (pe_int) (fun _ _ => rfl)) (pe_bl) rfl)
    (pss_one (ps_if (pt_cmpR op_notIn_seq (pe_ix ix_tup (pv 3) (pe_int) (fun _ _ => rfl)) (pe_slice sl_tupA (pe_ix ix_tup (pe_fld (pv 0) rfl) (pe_ix ix_tup (pv 3) (pe_int) (fun _ _ => rfl)) (fun _ _ => rfl)) po_none (po_some (pe_int))) rfl) (pss_one (ps_ret (pe_bl))) (pss_nil)))))))
    (pss_cons (ps_set (i := 4) sc0.nd rfl (.inl rfl) (pe_op op_catA (pe_slice sl_tupA (pv 1) (po_some (pe_int)) po_none) (pe_slice sl_tupA (pv 1) po_none (po_some (pe_int)))))
    (pss_one (ps_ret (pe_callB (cr_all rfl) (by rfl) T.b_all (by decide +kernel) (pa_cons (pe_lc (own := [("index", 5), ("ware", 6), ("pair", 3)]) (g := gTup K 2 (gCons (gTup K 2 (gCons (gName 5) (gCons (gName 6) (gNil)))) (gCons (gName 3) (gNil)))) (by rfl) sc0.nd (RZ.pi_zipA rfl T.b_zip (pa_cons (pv 1) (pa_cons (pv 4) (pa_nil)))) (blkOk_by (N := ["web", "thing", "known", "pair", "later", "index", "ware"]) (sc := defScope (top 32)) (by decide +kernel)) (fun _ _ _ _ _ => pg_tup rfl (pgs_cons (pg_tup rfl (pgs_cons (pg_name (i := 5) sc0.nd rfl (.inl rfl)) (pgs_cons (pg_name (i := 6) sc0.nd rfl (.inl rfl)) (pgs_nil)))) (pgs_cons (pg_name (i := 3) sc0.nd rfl (.inl rfl)) (pgs_nil)))) (fun _ _ _ _ _ => pts_nil) (fun _ _ _ _ _ => pe_cmpR op_eq (pe_c (ok21 T) hr (by decide) rfl (pa_cons (pe_ix (ix_tup : IxR _ (rIxT K)) ((pe_fld (pv 0) rfl : PE _ _ (tFld K (tVar 0) "stalls"))) (pv 5) (fun _ _ => rfl)) (pa_cons (pv 6) (pa_nil)))) (pe_ix (ix_tup : IxR _ (rIxT K)) (pv 3) (pe_int) (fun _ _ => rfl)) (nomark _))) (pa_nil)))))))), ?_⟩
  have hrne : r ≠ [] := by
    rintro rfl
    simp at hl2
  refine p_pass (et_is (et_or (et_not (pt_B (ep_cb (ea_cons (ep_var rfl (show (pD K (.tuple (r.map pairD))).p v2 H from pr)) (ea_cons ep_c ea_nil)) cp_isiT))) fun _ => pt_test (ep_op (ep_var rfl pr) (ep_nilT (K := K)) (rp_eqD (shaped_way r) shaped_nilT))) ?b1) fun H1 e1 => ?_
  case b1 =>
    have : PyData.eqv (wayD r) (.tuple []) = false := by
      unfold wayD
      rw [eqv_nilT]
      cases r with
      | nil => exact absurd rfl hrne
      | cons => rfl
    rw [this]
    rfl
  refine p_asg ep_dnewK fun v3 H2 e2 p3 => ?_
  obtain ⟨F, rfl, nF, hF⟩ := p3
  have e02 := e1.trans e2
  refine p_forTF (pTD (ds := r.map pairD) (ep_var rfl (show (pD K (.tuple (r.map pairD))).p v2 H2 from PD.up _ e02 pr))) (fun H3 j σ' H' => ∃ a3 kvs, σ' = [some v, some v2, some (.ref F), a3, none, none, none] ∧ Ex H2 H3 ∧ ExF H3 H' ∧ Ex H H' ∧ H' F = some (.dK kvs) ∧ kvs.map (·.1) = (ofN ((r.take j).map (·.1))).map Sum.inl)
    (fun H3 e3 => ⟨none, [], rfl, e3, ExF.refl _, e02.trans e3, e3 _ _ hF, rfl⟩) (fun H3 j σ' H' ⟨_, _, _, _, h, _⟩ => h) ?_ ?_
  · rintro H3 j Pj x σ' H4 e3 hj px ⟨a3, kvs, rfl, _, ef, ex4, hF4, hk4⟩
    rw [List.map_map, List.getElem?_map] at hj
    cases ex : r[j]? with
    | none => rw [ex] at hj; cases hj
    | some y =>
    rw [ex] at hj
    cases hj
    obtain ⟨i, b⟩ := y
    have hin := List.mem_of_getElem? ex
    obtain ⟨st, hst, htc, _⟩ := hwk.at j (i, b) ex
    have hbd := hwk.touch hok hin
    have so := hok.ok st (List.mem_of_getElem? hst)
    have px4 : (pD K (pairD (i, b))).p x H4 := (fx_D (by simp [pairD, noList, noListAll])).fx ef px
    have pw4 := PD.up _ ex4 pw
    refine p_pass (et_is (et_or (et_not (pt_B (ep_cb (ea_cons (ep_var rfl px4) (ea_cons ep_c ea_nil)) cp_isiT))) fun _ => et_or (pt_test (ep_op (ep_cb (ea_cons (ep_var rfl px4) ea_nil) cp_lenT) ep_i rp_neI))
      fun _ => et_not (pt_B (ep_call (i : Int) trivial (ea_cons (ep_ixI (i := 0) (ep_var rfl px4) ep_i rfl) ea_nil)))) (by rfl)) fun H5 e5 => ?_
    have px5 := PD.up _ e5 px4
    have pw5 := PD.up _ e5 pw4
    have hF5 := e5 _ _ hF4
    have hnew := idx_new hn1 ex
    have hkn : (valV kvs (Sum.inl (i : Int))).isSome = false := by
      cases hc : (valV kvs (Sum.inl (i : Int))).isSome with
      | false => rfl
      | true =>
        have := valV_some.mp hc
        rw [hk4, key_ofN] at this
        exact absurd this hnew
    refine p_pass (et_is (et_or (et_not (pt_test (ep_chain ep_i (ep_ixI (i := 0) (n := (i : Int)) (ep_var rfl px5) ep_i rfl) (ep_cb (ea_cons (ep_stallsP T rfl pw5) ea_nil) cp_lenT)))) fun _ => et_or (et_din (ep_ixI (i := 0) (n := (i : Int)) (ep_var rfl px5) ep_i rfl) (ep_vv rfl) hF5)
      fun _ => et_not (pt_B (ep_call (b, n) trivial (ea_cons (ep_ixI (i := 1) (n := (b : Nat)) (ep_var rfl px5) ep_i rfl) (ea_cons (ep_waresP T rfl pw5) ea_nil))))) ?b2) fun H6 e6 => ?_
    case b2 =>
      have h1 : ((i : Nat) : Int) < ((ss.map stlD).length : Nat) := by rw [List.length_map]; have := hbd.1; omega
      have h2 : b < n := hbd.2
      have h0 : i < ss.length := hbd.1
      rw [hkn]
      simp [h0, h2]
    have px6 := PD.up _ e6 px5
    have hF6 := e6 _ _ hF5
    have lk : kvs.length ≤ 10000 := by
      have h1 := congrArg List.length hk4
      rw [List.length_map, List.length_map, ofN_len, List.length_map, List.length_take] at h1
      omega
    refine p_dput (ep_c (v := .bl true)) (ep_vv rfl) (ep_ixI (i := 0) (n := (i : Int)) (ep_var rfl px6) ep_i rfl) hF6 lk fun vb H7 e7 p7 => ?_
    have hF7 := e7 _ _ hF6
    have ex7 : Ex H (upd H7 F (.dK (putK kvs (Sum.inl (i : Int)) vb))) := Ex.mut (((ex4.trans e5).trans e6).trans e7) (fresh_back e1 nF)
    have ef7 : ExF H4 (upd H7 F (.dK (putK kvs (Sum.inl (i : Int)) vb))) := (ExF.of ((e5.trans e6).trans e7)).trans (ExF.upd hF7 rfl)
    have px7 : (pD K (pairD (i, b))).p x (upd H7 F (.dK (putK kvs (Sum.inl (i : Int)) vb))) := (fx_D (by simp [pairD, noList, noListAll])).fx ef7 px4
    have pw7 := PD.up _ ex7 pw
    refine s_when (b := false) (et_is (pt_test (ep_op (ep_ixI (i := 1) (n := (b : Int)) (ep_var rfl px7) ep_i rfl) (ep_slTo (n := 2) (ep_stallAt T rfl pw7 (ep_ixI (i := 0) (n := (i : Nat)) (ep_var rfl px7) ep_i rfl) hst) ep_i) (rp_ninT (ns := [(st.u : Int), (st.v : Int)])))) ?b3) (fun z => nomatch z) fun _ H8 e8 => ?_
    case b3 =>
      have : ((b : Nat) : Int) ∈ [(st.u : Int), (st.v : Int)] := by
        rcases htc with h | h
        · rw [show b = st.u from h.symm]; simp
        · rw [show b = st.v from h.symm]; simp
      simp only [this, decide_true, Bool.not_true]
    refine ⟨_, _, rfl, e3, (ef.trans ef7).trans (ExF.of e8), ex7.trans e8, e8 _ _ upd_same, ?_⟩
    rw [putK_new (by rw [hk4, key_ofN]; exact hnew), List.map_append, hk4, idx_snoc ex, List.map_append]
    simp [ofN]
  · rintro H3 σ' H4 e3 ⟨a3, kvs, rfl, _, ef, ex4, hF4, hk4⟩
    have pr4 : (pD K (.tuple (r.map pairD))).p v2 H4 := PD.up _ ex4 pr
    have pw4 := PD.up _ ex4 pw
    refine p_asg (P := pD K (wayD (r.drop 1 ++ r.take 1))) ?_ fun v5 H5 e5 p5 => ?_
    · refine ep_wayCat (p := r.drop 1) (q := r.take 1) ?_ ?_ (by rw [List.length_drop, List.length_take]; omega)
      · unfold wayD
        rw [List.map_drop]
        exact ep_slFrom (n := 1) (ep_var rfl pr4) ep_i
      · unfold wayD
        rw [List.map_take]
        exact ep_slTo (n := 1) (ep_var rfl pr4) ep_i
    have pr5 := PD.up _ e5 pr4
    have pw5 := PD.up _ e5 pw4
    refine p_ret (ep_bis (ep_cb (ea_cons (ep_lcZ (K := K) (r := r) (q := r.drop 1 ++ r.take 1) (ea_cons (ep_var rfl (show (pD K (wayD r)).p v2 H5 from pr5)) (ea_cons (ep_var rfl p5) ea_nil)) (by rw [List.length_append, List.length_drop, List.length_take]; omega) (by omega) (fun _ _ _ => rfl) fun q a' b' c d h1 h2 z H6 e6 pz => ?_) ea_nil) cp_all) ?_) fun v6 H6 e6 p6 => k _ _ ((ex4.trans e5).trans e6) p6
    · obtain ⟨st, g1, g2, g3⟩ := hring.later q (a', b') (c, d) h1 h2
      refine ep_bis (ep_op (ep_call (st, b') trivial (ea_cons (ep_stallAt T rfl (PD.up _ e6 pw5) (ep_vi rfl) g1) (ea_cons (ep_vi rfl) ea_nil))) (ep_ixI (i := 1) (n := (d : Int)) (ep_var rfl pz) ep_i rfl) rp_eqI) ?_
      have : ((st.other b' : Nat) : Int) = (d : Int) := by
        have g3' : st.other b' = d := g3
        omega
      exact decide_eq_true this
    · simp
end
end K43
set_option Elab.async false
set_option linter.all false
set_option maxRecDepth 100000
set_option maxHeartbeats 4000000
/-! k43, part FC: is_uneven_ring, turned_about, least_way, ways_on. -/
namespace K43
open PySem PySem.Spec L2 Evl C8
section
variable {K : PySem.W.Frag} {σ : L2.St} {H H0 H' : Hp} {ta tb te tl tx : TE} {t tt : TT} {P P' R : PD} {D : Ends} {tu tw tz : TS} {g : TG}
theorem p_forR1 {n : Nat} {j : Nat} {ta' : TA} (h : EvPA ta' σ H [pI (n : Int)]) (hn : n ≤ 10000) (Pv : Nat → L2.St → Hp → Prop) (h0 : ∀ H1, Ex H H1 → Pv 0 σ H1)
    (hs : ∀ (i : Nat) σ' H', i < n → Pv i σ' H' → tu { D with nx := Pv (i + 1), ct := Pv (i + 1), bk := D.nx } (σ'.set j (some (.int (i : Int)))) H') (hd : ∀ σ' H', Pv n σ' H' → D.nx σ' H') : tFor (iRng1 ta') (gName j) tu D σ H :=
  s_forR1 (n := n) (fun H1 e Q q => h H1 e _ fun vs H2 e2 ps => by
    obtain ⟨v, r, rfl, pv, er⟩ := ps
    cases er
    cases pv
    exact q H2 e2) (by omega) Pv h0 (fun i σ' H' hi p => hs i σ' H' (by omega) p) (fun σ' H' p => hd σ' H' (by
      have : (n : Int).toNat = n := by omega
      rw [this] at p
      exact p))
theorem pair_pT {x : Nat × Nat} {v : V} (h : (pD K (pairD x)).p v H) : (pT K [pI (x.1 : Int), pI (x.2 : Int)]).p v H := by
  obtain ⟨a, xs, rfl, h1, h2⟩ := Dp.tup_inv (show Dp K H v (.tuple [.int x.1, .int x.2]) from h)
  cases h2 with | cons d1 h2 => cases h2 with | cons d2 h2 =>
  cases h2
  exact ⟨a, _, rfl, h1, _, _, rfl, Dp.int_inv d1, _, _, rfl, Dp.int_inv d2, rfl⟩
theorem way_pT {r : Way} (h : EvP te σ H (pD K (.tuple (r.map pairD)))) : EvP te σ H (pT K (r.map fun b => pT K [pI (b.1 : Int), pI (b.2 : Int)])) := h.imp fun v H' _ p => by
  obtain ⟨a, xs, rfl, h1, h2⟩ := pD_pTt p
  rw [List.map_map] at h2
  exact ⟨a, xs, rfl, h1, Alls.map_impl (fun b _ v q => pair_pT q) h2⟩
theorem ep_slFromW {r : Way} {n : Nat} (h : EvP te σ H (pD K (wayD r))) (hn : EvP tx σ H (pI (n : Int))) : EvP (tSl (rSlA K) te (tPart tx) tNoPart) σ H (pD K (wayD (r.drop n))) := by
  unfold wayD
  rw [List.map_drop]
  exact ep_slFrom (n := n) h hn
theorem ep_slToW {r : Way} {n : Nat} (h : EvP te σ H (pD K (wayD r))) (hn : EvP tx σ H (pI (n : Int))) : EvP (tSl (rSlA K) te tNoPart (tPart tx)) σ H (pD K (wayD (r.take n))) := by
  unfold wayD
  rw [List.map_take]
  exact ep_slTo (n := n) h hn
theorem ep_minW {L : Addr} {xs : List V} {x : Way} {ws : List Way} (hL : H L = some (.lst xs)) (dx : DpAll K H xs ((x :: ws).map wayD)) (h : EvP te σ H (pV (.ref L))) : EvP (tCB (rMinW K) (tCons te tNil)) σ H (pD K (wayD (minW x ws))) := fun H1 e Q q => h H1 e _ fun v H2 e2 p => by
  obtain rfl : v = .ref L := p
  exact ⟨L, xs, x, ws, rfl, SqL.of ((e.trans e2) _ _ hL), DpAll.up (e.trans e2) dx, fun v _ d => q v H2 e2 d⟩
end
section
variable {P : Program} {w : World} {K : PySem.W.Frag} {mg : Str → Option Value} {base : Heap} {cE cW : Addr} {σ : L2.St} {H : Hp} {te tx : TE}
theorem hPro_snoc {ss : List Stl} {r : Way} {k : Nat} {x : Nat × Nat} (h : r[k]? = some x) : hPro ss (r.take (k + 1)) = hPro ss (r.take k) * heldAt ss x := by
  unfold hPro
  rw [idx_snoc h, List.foldl_append]
  rfl
theorem tPro_snoc {ss : List Stl} {r : Way} {k : Nat} {x : Nat × Nat} (h : r[k]? = some x) : tPro ss (r.take (k + 1)) = tPro ss (r.take k) * heldAt ss (x.1, otherAt ss x) := by
  unfold tPro
  rw [idx_snoc h, List.foldl_append]
  rfl
def spIsUneven (K : PySem.W.Frag) (cW : Addr) : Sp := spF (fun (x : (Nat × List Stl) × Way) => [pW K cW x.1.1 x.1.2, pD K (wayD x.2)]) (fun x => pB (uneven x.1.2 x.2)) (fun x => WOk x.1.1 x.1.2 ∧ IsRing x.1.2 x.2)
theorem ok33 (T : Txt K mg cE cW) : Cal P w K mg base 6 "is_uneven_ring" (spIsUneven K cW) [] := by
  have sc0 : FnScope ["web", "thing", "first", "second", "index", "ware", "stall"] ["web", "thing"] (defScope (top 33)) := ⟨rfl, rfl, rfl, by decide +kernel, rfl, by decide +kernel, by decide +kernel⟩
  refine T.d33.cal sc0 (spF_len fun _ => rfl) fun cdv f A outer s H vs Q E hr h => ?_
  obtain ⟨⟨⟨n, ss⟩, r⟩, ⟨hok, hring⟩, ⟨v, rs, rfl, pw, v2, rs2, rfl, pr, e⟩, k⟩ := h
  cases e
  replace hok : WOk n ss := hok
  replace hring : IsRing ss r := hring
  replace pw : (pW K cW n ss).p v H := pw
  replace pr : (pD K (wayD r)).p v2 H := pr
  have rl := hring.len hok
  obtain ⟨a, hwk, hl2, hn1, hn2⟩ := id hring
  refine ⟨_, pss_cons (ps_if (pt_not (pt_val (pe_c (ok32 T) hr (by decide) rfl (pa_cons (pv 0) (pa_cons (pv 1) (pa_nil)))))) (pss_one (ps_ret (pe_bl))) (pss_nil))
    (pss_cons (ps_set (i := 2) sc0.nd rfl (.inl rfl) (pe_mk (okInitE T) hr (by decide) rfl (pa_cons (pe_int) (pa_cons (pe_int) (pa_nil)))))
    (pss_cons (ps_set (i := 3) sc0.nd rfl (.inl rfl) (pe_mk (okInitE T) hr (by decide) rfl (pa_cons (pe_int) (pa_cons (pe_int) (pa_nil)))))
    (pss_cons (ps_for PassesOwn.never rfl (pi_tup (pv 1)) (pg_tup rfl (pgs_cons (pg_name (i := 4) sc0.nd rfl (.inl rfl)) (pgs_cons (pg_name (i := 5) sc0.nd rfl (.inl rfl)) (pgs_nil)))) (pss_cons (ps_set (i := 6) sc0.nd rfl (.inl rfl) (pe_ix ix_tup (pe_fld (pv 0) rfl) (pv 4) (fun _ _ => rfl)))
    (pss_cons (ps_set (i := 2) sc0.nd rfl (.inl rfl) (pe_op (op_mulE T hr (by decide)) (pv 2) (pe_c (ok22 T) hr (by decide) rfl (pa_cons (pv 6) (pa_cons (pv 5) (pa_nil))))))
    (pss_one (ps_set (i := 3) sc0.nd rfl (.inl rfl) (pe_op (op_mulE T hr (by decide)) (pv 3) (pe_c (ok22 T) hr (by decide) rfl (pa_cons (pv 6) (pa_cons (pe_c (ok21 T) hr (by decide) rfl (pa_cons (pv 6) (pa_cons (pv 5) (pa_nil)))) (pa_nil))))))))))
    (pss_one (ps_ret (pe_cmpR (op_neE T hr (by decide)) (pv 2) (pv 3) (nomark _))))))), ?_⟩
  obtain ⟨ra, xs, rfl, hra, dxs⟩ := Dp.tup_inv (show Dp K H v2 (.tuple (r.map pairD)) from pr)
  have xl := DpAll.len dxs
  rw [List.length_map] at xl
  refine p_pass (et_not (pt_B (b := true) (ep_call (α := (Nat × List Stl) × Way) ((n, ss), r) ⟨hok, hring⟩ (ea_cons (ep_var rfl pw) (ea_cons (ep_var rfl pr) ea_nil))))) fun H1 e1 => ?_
  refine p_asg (ep_E11 (E := L2.E0) (cE := cE)) fun v3 H2 e2 p3 => ?_
  refine p_asg (ep_E11 (E := L2.E0) (cE := cE)) fun v4 H3 e3 p4 => ?_
  have e03 := (e1.trans e2).trans e3
  refine p_forT (ep_vv rfl) hra e03 (fun j σ' H' => ∃ v3 v4 a4 a5 a6, σ' = [some v, some (.ref ra), some v3, some v4, a4, a5, a6] ∧ Ex H H' ∧ (pE cE (hPro ss (r.take j))).p v3 H' ∧ (pE cE (tPro ss (r.take j))).p v4 H' ∧ Sz (100 * j + 1) (hPro ss (r.take j)) ∧ Sz (100 * j + 1) (tPro ss (r.take j)))
    (fun H4 e4 => ⟨v3, v4, none, none, none, rfl, e03.trans e4, PD.up _ (e3.trans e4) p3, PD.up _ e4 p4, sz_one _ (by omega), sz_one _ (by omega)⟩) (fun j σ' H' ⟨_, _, _, _, _, _, h, _⟩ => h) ?_ ?_
  · rintro j x σ' H4 hj ⟨v3, v4, a4, a5, a6, rfl, e4, ph, pt, sh, st⟩
    obtain ⟨d, hd1, hd2⟩ := DpAll.get dxs hj
    rw [List.getElem?_map] at hd1
    cases ex : r[j]? with
    | none => rw [ex] at hd1; cases hd1
    | some y =>
    rw [ex] at hd1
    cases hd1
    obtain ⟨i, b⟩ := y
    have hjl : j < r.length := (List.getElem?_eq_some_iff.mp ex).1
    obtain ⟨stl, hst, htc, _⟩ := hwk.at j (i, b) ex
    have so := hok.ok stl (List.mem_of_getElem? hst)
    have hh : heldAt ss (i, b) = stl.held b := heldAt_at hst
    have ho : heldAt ss (i, otherAt ss (i, b)) = stl.held (stl.other b) := by rw [otherAt_at hst, heldAt_at hst]
    obtain ⟨ta, us, rfl, hus, du⟩ := Dp.tup_inv (show Dp K H4 x (pairD (i, b)) from Dp.up e4 hd2)
    cases du with | cons du1 du => cases du with | cons du2 du =>
    cases du
    cases du1
    cases du2
    refine ⟨ta, _, rfl, hus, rfl, _, _, rfl, _, _, rfl, rfl, ?_⟩
    have pw4 := PD.up _ e4 pw
    refine p_asg (ep_stallAt T rfl pw4 (ep_vi rfl) hst) fun v5 H5 e5 p5 => ?_
    refine p_asg (ep_op (ep_var rfl (PD.up _ e5 ph)) (ep_call (stl, b) ⟨so.sa, so.sb⟩ (ea_cons (ep_var rfl p5) (ea_cons (ep_vi rfl) ea_nil))) (rp_mulE (sh.mono (by omega)) ((so.held b).mono (by omega)))) fun v6 H6 e6 p6 => ?_
    refine p_asg1 (ep_op (ep_var rfl (PD.up _ (e5.trans e6) pt)) (ep_call (stl, stl.other b) ⟨so.sa, so.sb⟩ (ea_cons (ep_var rfl (PD.up _ e6 p5)) (ea_cons (ep_call (stl, b) trivial (ea_cons (ep_var rfl (PD.up _ e6 p5)) (ea_cons (ep_vi rfl) ea_nil))) ea_nil))) (rp_mulE (st.mono (by omega)) ((so.held _).mono (by omega)))) fun v7 H7 e7 p7 => ?_
    refine ⟨_, _, _, _, _, rfl, ((e4.trans e5).trans e6).trans e7, ?_, ?_, ?_, ?_⟩
    · rw [hPro_snoc ex, hh]; exact PD.up _ e7 p6
    · rw [tPro_snoc ex, ho]; exact p7
    · rw [hPro_snoc ex, hh]; exact (sz_mul sh (so.held b)).mono (by omega)
    · rw [tPro_snoc ex, ho]; exact (sz_mul st (so.held _)).mono (by omega)
  · rintro σ' H4 ⟨v3, v4, a4, a5, a6, rfl, e4, ph, pt, sh, st⟩
    rw [xl, List.take_length] at ph pt
    exact p_ret (ep_op (ep_var rfl ph) (ep_var rfl pt) rp_neE) fun v5 H5 e5 p5 => k _ _ (e4.trans e5) p5
def spTurned (K : PySem.W.Frag) (cW : Addr) : Sp := spF (fun (x : (Nat × List Stl) × Way) => [pW K cW x.1.1 x.1.2, pD K (wayD x.2)]) (fun x => pD K (wayD (back x.1.2 x.2))) (fun x => x.2.length ≤ 100 ∧ ∀ y ∈ x.2, y.1 < x.1.2.length)
theorem ok36 (T : Txt K mg cE cW) : Cal P w K mg base 2 "turned_about" (spTurned K cW) [] := by
  have sc0 : FnScope ["web", "ring", "index", "ware"] ["web", "ring"] (defScope (top 36)) := ⟨rfl, rfl, rfl, by decide +kernel, rfl, by decide +kernel, by decide +kernel⟩
  refine T.d36.cal sc0 (spF_len fun _ => rfl) fun cdv f A outer s H vs Q E hr h => ?_
  obtain ⟨⟨⟨n, ss⟩, r⟩, ⟨hlen, hix⟩, ⟨v, rs, rfl, pw, v2, rs2, rfl, pr, e⟩, k⟩ := h
  cases e
  replace pw : (pW K cW n ss).p v H := pw
  replace pr : (pD K (wayD r)).p v2 H := pr
  replace hlen : r.length ≤ 100 := hlen
  replace hix : ∀ y ∈ r, y.1 < ss.length := hix
  refine ⟨_, pss_one (ps_ret (pe_callTy (call_tuple_of) (by rfl) T.b_tuple (by decide +kernel) (pa_cons (pe_lc (own := [("index", 2), ("ware", 3)]) (g := gTup K 2 (gCons (gName 2) (gCons (gName 3) (gNil)))) (by rfl) sc0.nd (pi_tup (pe_revT (pv 1))) (blkOk_by (N := ["web", "ring", "index", "ware"]) (sc := defScope (top 36)) (by decide +kernel)) (fun _ _ _ _ _ => pg_tup rfl (pgs_cons (pg_name (i := 2) sc0.nd rfl (.inl rfl)) (pgs_cons (pg_name (i := 3) sc0.nd rfl (.inl rfl)) (pgs_nil)))) (fun _ _ _ _ _ => pts_nil) (fun _ _ _ _ _ => pe_tup (pa_cons (pv 2) (pa_cons (pe_c (ok21 T) hr (by decide) rfl (pa_cons (pe_ix (ix_tup : IxR _ (rIxT K)) ((pe_fld (pv 0) rfl : PE _ _ (tFld K (tVar 0) "stalls"))) (pv 2) (fun _ _ => rfl)) (pa_cons (pv 3) (pa_nil)))) (pa_nil))))) (pa_nil)))), ?_⟩
  refine p_ret (P := pT K (r.reverse.map fun b => pD K (pairD (b.1, otherAt ss b)))) (ep_cb (ea_cons (ep_lcT2 (bs := r.reverse) (s1 := fun b => pI (b.1 : Int)) (s2 := fun b => pI (b.2 : Int)) ?_ (by rw [List.length_reverse]; omega) (fun _ _ => rfl) (fun b hb x y H1 e1 px py => ?_) (fun b hb => st_D (by simp [pairD, noList, noListAll]))) ea_nil) cp_tupleL) fun v3 H3 e3 p3 => k _ _ e3 ?_
  · refine way_pT ?_
    have := ep_rev (ep_var (σ := [some v, some v2, none, none]) (i := 1) rfl (show (pD K (.tuple (r.map pairD))).p v2 H from pr))
    rw [← List.map_reverse] at this
    exact this
  · obtain rfl : x = V.int (b.1 : Int) := px
    obtain rfl : y = V.int (b.2 : Int) := py
    have hb' := hix b (List.mem_reverse.mp hb)
    obtain ⟨st, hst⟩ : ∃ st, ss[b.1]? = some st := ⟨ss[b.1], by simp [hb']⟩
    have : otherAt ss b = st.other b.2 := otherAt_at (b := b.2) hst
    rw [this]
    exact ep_pair2 (ep_vi rfl) (ep_call (st, b.2) trivial (ea_cons (ep_stallAt T rfl (PD.up _ e1 pw) (ep_vi rfl) hst) (ea_cons (ep_vi rfl) ea_nil)))
  · have : (r.reverse.map fun b => pD K (pairD (b.1, otherAt ss b))) = ((back ss r).map pairD).map (pD K) := by
      unfold back
      rw [List.map_map, List.map_map]
      rfl
    rw [this] at p3
    exact pTt_pD p3
end
end K43
set_option Elab.async false
set_option linter.all false
set_option maxRecDepth 100000
set_option maxHeartbeats 4000000
/-! k43, part FD: least_way, ways_on. -/
namespace K43
open PySem PySem.Spec L2 Evl C8
theorem turns_ne {r : Way} (h : r ≠ []) : turns r ≠ [] := by
  unfold turns
  cases r with
  | nil => exact absurd rfl h
  | cons x r => simp [List.range_succ_eq_map]
theorem least_eq {ss : List Stl} {r : Way} (h : r ≠ []) : ∃ x ws, turns r ++ turns (back ss r) = x :: ws ∧ least ss r = minW x ws := by
  unfold least
  cases e : turns r ++ turns (back ss r) with
  | nil =>
    have := List.append_eq_nil_iff.mp e
    exact absurd this.1 (turns_ne h)
  | cons x ws => exact ⟨x, ws, rfl, rfl⟩
section
variable {P : Program} {w : World} {K : PySem.W.Frag} {mg : Str → Option Value} {base : Heap} {cE cW : Addr} {σ : L2.St} {H : Hp} {te tx : TE}
def spLeast (K : PySem.W.Frag) (cW : Addr) : Sp := spF (fun (x : (Nat × List Stl) × Way) => [pW K cW x.1.1 x.1.2, pD K (wayD x.2)]) (fun x => pD K (wayD (least x.1.2 x.2))) (fun x => x.2 ≠ [] ∧ x.2.length ≤ 100 ∧ ∀ y ∈ x.2, y.1 < x.1.2.length)
theorem ok37 (T : Txt K mg cE cW) : Cal P w K mg base 3 "least_way" (spLeast K cW) [] := by
  have sc0 : FnScope ["web", "ring", "found", "way", "at"] ["web", "ring"] (defScope (top 37)) := ⟨rfl, rfl, rfl, by decide +kernel, rfl, by decide +kernel, by decide +kernel⟩
  refine T.d37.cal sc0 (spF_len fun _ => rfl) fun cdv f A outer s H vs Q E hr h => ?_
  obtain ⟨⟨⟨n, ss⟩, r⟩, ⟨hne, hlen, hix⟩, ⟨v, rs, rfl, pw, v2, rs2, rfl, pr, e⟩, k⟩ := h
  cases e
  replace pw : (pW K cW n ss).p v H := pw
  replace pr : (pD K (wayD r)).p v2 H := pr
  replace hlen : r.length ≤ 100 := hlen
  replace hne : r ≠ [] := hne
  replace hix : ∀ y ∈ r, y.1 < ss.length := hix
  refine ⟨_, pss_cons (ps_set (i := 2) sc0.nd rfl (.inl rfl) (pe_lst (pa_nil)))
    (pss_cons (ps_for PassesOwn.never rfl (pi_tup (pe_tup (pa_cons (pv 1) (pa_cons (pe_c (ok36 T) hr (by decide) rfl (pa_cons (pv 0) (pa_cons (pv 1) (pa_nil)))) (pa_nil))))) (pg_name (i := 3) sc0.nd rfl (.inl rfl)) (pss_one (ps_for PassesOwn.never rfl (pi_range1 rfl T.b_range (pa_cons (pe_callB (call_len_seq) (by rfl) T.b_len (by decide +kernel) (pa_cons (pv 3) (pa_nil))) (pa_nil))) (pg_name (i := 4) sc0.nd rfl (.inl rfl)) (pss_one (ps_expr (pe_bm PySem.F.plainAttrs_list PySem.F.slot_list_append PySem.F.type_list_append mt_append (pv 2) (pa_cons (pe_op op_catA (pe_slice sl_tupA (pv 3) (po_some (pv 4)) po_none) (pe_slice sl_tupA (pv 3) po_none (po_some (pv 4)))) (pa_nil))))))))
    (pss_one (ps_ret (pe_callB (cr_minW rfl (Nat.lt_of_le_of_lt (Nat.add_le_add_left (by decide : 8 ≤ 64) _) hr.units)) (by rfl) T.b_min (by decide +kernel) (pa_cons (pv 2) (pa_nil)))))), ?_⟩
  refine p_asg (ep_lstN (Ps := []) ea_nil (by simp)) fun v3 H1 e1 p3 => ?_
  obtain ⟨L, _, rfl, nL, hL, rfl⟩ := p3
  have bl : (back ss r).length = r.length := by unfold back; rw [List.length_map, List.length_reverse]
  have tl : ∀ q : Way, (turns q).length = q.length := fun q => by unfold turns; rw [List.length_map, List.length_range]
  refine p_forTF (Ps := [pD K (wayD r), pD K (wayD (back ss r))]) (ep_tup (ea_cons (ep_var rfl (PD.up _ e1 pr)) (ea_cons (ep_call (α := (Nat × List Stl) × Way) ((n, ss), r) ⟨hlen, hix⟩ (ea_cons (ep_var rfl (PD.up _ e1 pw)) (ea_cons (ep_var rfl (PD.up _ e1 pr)) ea_nil))) ea_nil)) (by simp))
    (fun H2 j σ' H' => ∃ xs a3 a4, σ' = [some v, some v2, some (.ref L), a3, a4] ∧ ExF H2 H' ∧ Ex H H' ∧ H' L = some (.lst xs) ∧ DpAll K H' xs ((if j = 0 then [] else if j = 1 then turns r else turns r ++ turns (back ss r)).map wayD))
    (fun H2 e2 => ⟨[], none, none, rfl, ExF.refl _, e1.trans e2, e2 _ _ hL, .nil⟩) (fun H2 j σ' H' ⟨_, _, _, _, h, _⟩ => h) ?_ ?_
  · rintro H2 j Pj x σ' H3 e2 hj px ⟨xs, a3, a4, rfl, ef, ex3, hL3, dx⟩
    obtain ⟨q, hq, hql, hj2⟩ : ∃ q : Way, (pD K (wayD q)).p x H2 ∧ q.length = r.length ∧ ((if j = 0 then [] else if j = 1 then turns r else turns r ++ turns (back ss r)) ++ turns q = (if j + 1 = 0 then [] else if j + 1 = 1 then turns r else turns r ++ turns (back ss r)) ∧ (if j = 0 then [] else if j = 1 then turns r else turns r ++ turns (back ss r)).length ≤ 1000) := by
      match j, hj with
      | 0, hj => cases hj; exact ⟨r, px, rfl, by simp, by simp⟩
      | 1, hj => cases hj; exact ⟨back ss r, px, bl, by simp, by simp [tl]; omega⟩
    obtain ⟨hj3, hj4⟩ := hj2
    generalize (if j = 0 then [] else if j = 1 then turns r else turns r ++ turns (back ss r)) = acc at *
    have pq3 : (pD K (wayD q)).p x H3 := (fx_D (noList_way _)).fx ef hq
    refine p_forR1 (n := q.length) (ea_cons (ep_cb (ea_cons (ep_var rfl (show (pD K (.tuple (q.map pairD))).p x H3 from pq3)) ea_nil) cp_lenT |>.imp fun _ _ _ p => by rw [List.length_map] at p; exact p) ea_nil) (by omega) (fun i σ' H' => ∃ xs a4, σ' = [some v, some v2, some (.ref L), some x, a4] ∧ ExF H2 H' ∧ Ex H H' ∧ H' L = some (.lst xs) ∧ DpAll K H' xs ((acc ++ (List.range i).map fun k => q.drop k ++ q.take k).map wayD))
      (fun H4 e4 => ⟨xs, a4, rfl, ef.trans (ExF.of e4), ex3.trans e4, e4 _ _ hL3, by simpa using DpAll.up e4 dx⟩) ?_ ?_
    · rintro i σ' H4 hi ⟨xs, a4, rfl, ef4, ex4, hL4, dx4⟩
      have pq4 : (pD K (wayD q)).p x H4 := (fx_D (noList_way _)).fx ef4 hq
      have lx := DpAll.len dx4
      rw [List.length_map, List.length_append, List.length_map, List.length_range] at lx
      refine p_app1 (P := pD K (wayD (q.drop i ++ q.take i))) hL4 (ep_vv rfl) (ep_wayCat (ep_slFromW (n := i) (ep_var rfl pq4) (ep_vi rfl)) (ep_slToW (n := i) (ep_var rfl pq4) (ep_vi rfl)) (by rw [List.length_drop, List.length_take]; omega)) (by omega) fun v5 H5 e5 p5 => ?_
      have hL5 := e5 _ _ hL4
      refine ⟨_, _, rfl, (ef4.trans (ExF.of e5)).trans (ExF.upd hL5 rfl), Ex.mut (ex4.trans e5) nL, upd_same, ?_⟩
      refine DpAll.lst hL5 (noList_ways _) ?_
      have e : (acc ++ (List.range (i + 1)).map fun k => q.drop k ++ q.take k).map wayD = (acc ++ (List.range i).map fun k => q.drop k ++ q.take k).map wayD ++ [wayD (q.drop i ++ q.take i)] := by simp [List.range_succ]
      rw [e]
      exact DpAll.snoc (DpAll.up e5 dx4) p5
    · rintro σ' H4 ⟨xs, a4, rfl, ef4, ex4, hL4, dx4⟩
      refine ⟨xs, _, _, rfl, ef4, ex4, hL4, ?_⟩
      rw [← hj3]
      exact dx4
  · rintro H2 σ' H3 e2 ⟨xs, a3, a4, rfl, ef, ex3, hL3, dx⟩
    obtain ⟨x, ws, h1, h2⟩ := least_eq (ss := ss) hne
    refine p_ret (P := pD K (wayD (least ss r))) ?_ fun v5 H5 e5 p5 => k _ _ (ex3.trans e5) p5
    rw [h2]
    refine ep_minW hL3 ?_ (ep_vv rfl)
    rw [← h1]
    exact dx
theorem alls_ints : ∀ {ns : List Int} {vs : List V} {H : Hp}, Alls (ns.map pI) vs H → vs = ns.map V.int
  | [], _, _, h => h
  | n :: ns, _, _, ⟨v, r, e, p, t⟩ => by
    cases p
    rw [e, alls_ints t]
    rfl
def pExt (K : PySem.W.Frag) (e : Way × Nat) : PD := pT K [pD K (wayD e.1), pI (e.2 : Int)]
theorem st_Ext {e : Way × Nat} : (pExt K e).St := st_T (by
  intro P hP
  simp only [List.mem_cons, List.not_mem_nil, or_false] at hP
  rcases hP with rfl | rfl
  · exact st_D (noList_way _)
  · exact st_I)
def spWays (K : PySem.W.Frag) (cW : Addr) : Sp := fun vs H Q _ => ∃ n ss v v2 p here, WOk n ss ∧ vs = [v, v2, .int (here : Nat)] ∧ (pW K cW n ss).p v H ∧ (pD K (wayD p)).p v2 H ∧ p.length ≤ 100 ∧
  ∀ a xs H', Ex H H' → H a = none → H' a = some (.lst xs) → Alls ((exts ss p here).map (pExt K)) xs H' → Q (.ref a) H'
theorem ok38 (T : Txt K mg cE cW) : Cal P w K mg base 2 "ways_on" (spWays K cW) [] := by
  have sc0 : FnScope ["web", "way", "here", "found", "index", "used", "stall", "ware"] ["web", "way", "here"] (defScope (top 38)) := ⟨rfl, rfl, rfl, by decide +kernel, rfl, by decide +kernel, by decide +kernel⟩
  refine T.d38.cal sc0 (fun vs H Q E h => by obtain ⟨n, ss, v, v2, p, here, _, rfl, _⟩ := h; rfl) fun cdv f A outer s H vs Q E hr h => ?_
  obtain ⟨n, ss, v, v2, p, here, hok, rfl, pw, pp, hlen, k⟩ := h
  have hl16 := hok.len
  obtain ⟨tw, xw, hw⟩ := id pw
  refine ⟨_, pss_cons (ps_set (i := 3) sc0.nd rfl (.inl rfl) (pe_lst (pa_nil)))
    (pss_cons (ps_setLc (i := 5) (own := [("index", 4), ("ware", 7)]) (g := gTup K 2 (gCons (gName 4) (gCons (gName 7) (gNil)))) (tt := tYes) (by rfl) sc0.nd rfl rfl (sw_true rfl rfl rfl (by decide +kernel)) (pi_tup (pv 1)) (blkOk_by (N := ["web", "way", "here", "found", "index", "used", "stall", "ware"]) (sc := defScope (top 38)) (by decide +kernel)) (fun _ _ _ _ _ => pg_tup rfl (pgs_cons (pg_name (i := 4) sc0.nd rfl (.inl rfl)) (pgs_cons (pg_name (i := 7) sc0.nd rfl (.inl rfl)) (pgs_nil)))) (fun _ _ _ _ _ => pts_nil) (fun _ _ _ _ _ => pv 4))
    (pss_cons (ps_for PassesOwn.never rfl (pi_enumT (by rfl) T.b_enum (pa_cons (pe_fld (pv 0) rfl) (pa_nil))) (pg_tup rfl (pgs_cons (pg_name (i := 4) sc0.nd rfl (.inl rfl)) (pgs_cons (pg_name (i := 6) sc0.nd rfl (.inl rfl)) (pgs_nil)))) (pss_one (ps_if (PW.pt (pw_and (pt_cmpR op_in_seq (pv 2) (pe_slice sl_tupA (pv 6) po_none (po_some (pe_int))) rfl) (pw_and1 (pt_cmpR op_notIn_seq (pv 4) (pv 5) rfl)))) (pss_one (ps_expr (pe_bm PySem.F.plainAttrs_list PySem.F.slot_list_append PySem.F.type_list_append mt_append (pv 3) (pa_cons (pe_tup (pa_cons (pe_op op_catA (pv 1) (pe_tup (pa_cons (pe_tup (pa_cons (pv 4) (pa_cons (pv 2) (pa_nil)))) (pa_nil)))) (pa_cons (pe_c (ok21 T) hr (by decide) rfl (pa_cons (pv 6) (pa_cons (pv 2) (pa_nil)))) (pa_nil)))) (pa_nil))))) (pss_nil))))
    (pss_one (ps_ret (pv 3))))), ?_⟩
  refine p_asg (ep_lstN (Ps := []) ea_nil (by simp)) fun v3 H1 e1 p3 => ?_
  obtain ⟨L, _, rfl, nL, hL, rfl⟩ := p3
  refine p_asg (ep_lcT2N (K := K) (bs := p) (s1 := fun b => pI (b.1 : Int)) (s2 := fun b => pI (b.2 : Int)) (res := fun b => pI (b.1 : Int)) (way_pT (ep_var rfl (show (pD K (.tuple (p.map pairD))).p v2 H1 from PD.up _ e1 pp))) (by omega) (fun _ _ => rfl) (fun b hb x y H2 e2 px py => ep_var rfl px) (fun b hb => st_I)) fun v5 H2 e2 p5 => ?_
  have e02 := e1.trans e2
  obtain ⟨U, us, rfl, nU, hU, aU⟩ := p5
  have dU : ∀ {H' : Hp}, H' U = some (.lst us) → Dp K H' (.ref U) (.list ((ofN (p.map (·.1))).map .int)) := fun {H'} h => by
    have e : (p.map fun b => pI (b.1 : Int)) = (ofN (p.map (·.1))).map pI := by
      unfold ofN
      rw [List.map_map, List.map_map]
      rfl
    rw [e] at aU
    have : us = (ofN (p.map (·.1))).map V.int := alls_ints aU
    rw [this] at h
    exact .lst (SqL.of h) ints_DpAll
  have nLU : L ≠ U := ne_of_none hL nU
  refine p_enumT (H0 := H) (ea_cons (ep_stalls T rfl (hw.up e02)) ea_nil) hw.tp e02 (fun j σ' H' => ∃ xs a4 a6, σ' = [some v, some v2, some (.int (here : Nat)), some (.ref L), a4, some (.ref U), a6, none] ∧ Ex H H' ∧ H' U = some (.lst us) ∧ H' L = some (.lst xs) ∧
      Alls ((((List.range j).filter (goes ss p here)).map fun i => (p ++ [(i, here)], otherAt ss (i, here))).map (pExt K)) xs H')
    (fun H3 e3 => ⟨[], none, none, rfl, e02.trans e3, e3 _ _ hU, (e2.trans e3) _ _ hL, rfl⟩) (fun j σ' H' ⟨_, _, _, _, h, _⟩ => h) ?_ ?_
  · rintro j x σ' H3 H4 hj ⟨xs, a4, a6, rfl, ex3, hU3, hL3, al3⟩ e4
    obtain ⟨st, hst, pst⟩ := hw.stl hj
    have ex4 := ex3.trans e4
    have pst4 := PD.up _ ex4 pst
    have hU4 := e4 _ _ hU3
    have hg : goes ss p here j = (decide ((here : Int) ∈ [(st.u : Int), (st.v : Int)]) && !decide ((j : Int) ∈ ofN (p.map (·.1)))) := by
      unfold goes
      rw [hst]
      show ((decide (st.u = here) || decide (st.v = here)) && !decide (j ∈ p.map (·.1))) = (decide ((here : Int) ∈ [(st.u : Int), (st.v : Int)]) && !decide ((j : Int) ∈ ofN (p.map (·.1))))
      congr 1
      · rw [Bool.eq_iff_iff, Bool.or_eq_true, decide_eq_true_iff, decide_eq_true_iff, decide_eq_true_iff]
        simp only [List.mem_cons, List.not_mem_nil, or_false]
        omega
      · rw [show decide ((j : Int) ∈ ofN (p.map (·.1))) = decide (j ∈ p.map (·.1)) from by rw [Bool.eq_iff_iff, decide_eq_true_iff, decide_eq_true_iff, mem_ofN]]
    have e1r : List.range (j + 1) = List.range j ++ [j] := List.range_succ
    have lxs := Alls.len al3
    have lf : ((List.range j).filter (goes ss p here)).length ≤ j := by
      have := List.length_filter_le (goes ss p here) (List.range j)
      rwa [List.length_range] at this
    have hjl : j < ss.length := (List.getElem?_eq_some_iff.mp hst).1
    rw [List.length_map, List.length_map] at lxs
    refine s_when (b := goes ss p here j) (et_is (et_and (pt_test (ep_op (ep_vi rfl) (ep_slTo (n := 2) (ep_var rfl pst4) ep_i) (rp_inT (ns := [(st.u : Int), (st.v : Int)])))) fun _ => pt_test (ep_op (ep_vi rfl) (ep_var rfl (show (pD K (.list ((ofN (p.map (·.1))).map .int))).p (.ref U) H4 from dU hU4)) rp_ninL)) hg.symm) (fun hb H5 e5 => ?_) (fun hb H5 e5 => ?_)
    · have ex5 := ex4.trans e5
      have hot : otherAt ss (j, here) = st.other here := otherAt_at hst
      refine p_app1 (P := pExt K (p ++ [(j, here)], otherAt ss (j, here))) (e5 _ _ (e4 _ _ hL3)) (ep_vv rfl) ?_ (by omega) fun v6 H6 e6 p6 => ?_
      · rw [hot]
        exact ep_tup (ea_cons (ep_wayCat (ep_var rfl (PD.up _ ex5 pp)) (ep_way1 (ep_vi rfl) (ep_vi rfl)) (by rw [List.length_singleton]; omega)) (ea_cons (ep_call (st, here) trivial (ea_cons (ep_var rfl (PD.up _ ex5 pst)) (ea_cons (ep_vi rfl) ea_nil))) ea_nil)) (by simp)
      · have hL6 := e6 _ _ (e5 _ _ (e4 _ _ hL3))
        refine ⟨_, _, _, rfl, Ex.mut (ex5.trans e6) nL, by rw [upd_ne nLU.symm]; exact e6 _ _ (e5 _ _ hU4), upd_same, ?_⟩
        rw [e1r, List.filter_append]
        have : [j].filter (goes ss p here) = [j] := by simp [hb]
        rw [this, List.map_append, List.map_append]
        have sS : ∀ P ∈ (((List.range j).filter (goes ss p here)).map fun i => (p ++ [(i, here)], otherAt ss (i, here))).map (pExt K), PD.St P := by
          intro P hP
          obtain ⟨e, _, rfl⟩ := List.mem_map.mp hP
          exact st_Ext
        exact Alls.snoc (st_Ext.st hL6 p6) (Alls.st sS hL6 (Alls.up ((e4.trans e5).trans e6) al3))
    · refine ⟨xs, _, _, rfl, ex4.trans e5, e5 _ _ hU4, e5 _ _ (e4 _ _ hL3), ?_⟩
      rw [e1r, List.filter_append]
      have : [j].filter (goes ss p here) = [] := by simp [hb]
      rw [this, List.append_nil]
      exact Alls.up (e4.trans e5) al3
  · rintro σ' H3 ⟨xs, a4, a6, rfl, ex3, hU3, hL3, al3⟩
    rw [hw.len] at al3
    exact p_ret (ep_vv rfl) fun v6 H6 e6 p6 => by
      obtain rfl : v6 = .ref L := p6
      exact k L xs H6 (ex3.trans e6) nL (e6 _ _ hL3) (Alls.up e6 al3)
end
end K43
set_option Elab.async false
set_option linter.all false
set_option maxRecDepth 100000
set_option maxHeartbeats 4000000
/-! k43, part S6: the search for rings, in plain words; TooMany. -/
namespace K43
open PySem PySem.Spec L2 Evl C8

/-! ### the search -/
def RingAt (ss : List Stl) (f : Nat) (r : Way) : Prop := IsWalk ss f r f ∧ 2 ≤ r.length ∧ (r.map (·.1)).Nodup ∧ (r.map (·.2)).Nodup ∧ ∀ x ∈ r.drop 1, f < x.2
structure PathAt (ss : List Stl) (f : Nat) (e : Way × Nat) : Prop where
  wk : IsWalk ss f e.1 e.2
  n1 : (e.1.map (·.1)).Nodup
  n2 : (e.1.map (·.2)).Nodup
  nh : e.2 ∉ e.1.map (·.2)
  up : ∀ x ∈ e.1.drop 1, f < x.2
  hu : e.1 = [] ∨ f < e.2
/-- r goes on from the entry -/
def Pend (e : Way × Nat) (r : Way) : Prop := ∃ i, r.take e.1.length = e.1 ∧ r[e.1.length]? = some (i, e.2)
def mu (ws : List (Way × Nat)) : Nat := (ws.map fun e => 17 ^ (9 - e.1.length)).sum
theorem mu_snoc (ws : List (Way × Nat)) (e : Way × Nat) : mu (ws ++ [e]) = mu ws + 17 ^ (9 - e.1.length) := by
  unfold mu
  rw [List.map_append, List.sum_append]
  simp
theorem RingAt.ring {ss : List Stl} {f : Nat} {r : Way} (h : RingAt ss f r) : IsRing ss r := ⟨f, h.1, h.2.1, h.2.2.1, h.2.2.2.1⟩
theorem PathAt.root (ss : List Stl) (f : Nat) : PathAt ss f ([], f) := ⟨.nil f, List.nodup_nil, List.nodup_nil, by simp, by simp, .inl rfl⟩
theorem Pend.root {ss : List Stl} {f : Nat} {r : Way} (h : RingAt ss f r) : Pend ([], f) r := by
  obtain ⟨hw, hl, _⟩ := h
  have hh := hw.head
  cases r with
  | nil => simp at hl
  | cons x r =>
    obtain ⟨i, b⟩ := x
    simp at hh
    exact ⟨i, rfl, by simp [hh]⟩
theorem goes_iff {ss : List Stl} {p : Way} {here i : Nat} : goes ss p here i = true ↔ ∃ s, ss[i]? = some s ∧ s.touch here ∧ i ∉ p.map (·.1) := by
  unfold goes Stl.touch
  cases h : ss[i]? with
  | none => simp
  | some s => simp
theorem exts_len {ss : List Stl} {p : Way} {here : Nat} : (exts ss p here).length ≤ ss.length := by
  unfold exts
  rw [List.length_map]
  have := List.length_filter_le (goes ss p here) (List.range ss.length)
  rwa [List.length_range] at this
theorem exts_mem {ss : List Stl} {p : Way} {here : Nat} {e : Way × Nat} (h : e ∈ exts ss p here) : ∃ i s, ss[i]? = some s ∧ s.touch here ∧ i ∉ p.map (·.1) ∧ e = (p ++ [(i, here)], s.other here) := by
  unfold exts at h
  obtain ⟨i, hi, rfl⟩ := List.mem_map.mp h
  obtain ⟨s, h1, h2, h3⟩ := goes_iff.mp (List.mem_filter.mp hi).2
  exact ⟨i, s, h1, h2, h3, by rw [otherAt_at h1]⟩
theorem exts_in {ss : List Stl} {p : Way} {here i : Nat} {s : Stl} (h1 : ss[i]? = some s) (h2 : s.touch here) (h3 : i ∉ p.map (·.1)) : (p ++ [(i, here)], s.other here) ∈ exts ss p here := by
  unfold exts
  refine List.mem_map.mpr ⟨i, List.mem_filter.mpr ⟨List.mem_range.mpr (List.getElem?_eq_some_iff.mp h1).1, goes_iff.mpr ⟨s, h1, h2, h3⟩⟩, ?_⟩
  rw [otherAt_at h1]
/-- one step of an entry -/
theorem PathAt.ext {ss : List Stl} {f : Nat} {e x : Way × Nat} (h : PathAt ss f e) (hx : x ∈ exts ss e.1 e.2) : IsWalk ss f x.1 x.2 ∧ (x.1.map (·.1)).Nodup ∧ (x.1.map (·.2)).Nodup ∧ (∀ y ∈ x.1.drop 1, f < y.2) ∧ x.1 ≠ [] ∧ x.1.length = e.1.length + 1 := by
  obtain ⟨i, s, h1, h2, h3, rfl⟩ := exts_mem hx
  refine ⟨h.wk.step h1 h2, ?_, ?_, ?_, by simp, by simp⟩
  · rw [List.map_append]
    exact nd_snoc h.n1 h3
  · rw [List.map_append]
    exact nd_snoc h.n2 h.nh
  · intro y hy
    rcases h.hu with h0 | h0
    · rw [h0] at hy
      simp at hy
    · by_cases hl : 1 ≤ e.1.length
      · rw [List.drop_append_of_le_length hl] at hy
        rcases List.mem_append.mp hy with q | q
        · exact h.up y q
        · rw [List.mem_singleton.mp q]
          exact h0
      · have : e.1 = [] := List.eq_nil_of_length_eq_zero (by omega)
        rw [this] at hy
        simp at hy
theorem PathAt.close {ss : List Stl} {f : Nat} {e x : Way × Nat} (h : PathAt ss f e) (hx : x ∈ exts ss e.1 e.2) (hc : x.2 = f) (hl : 1 < x.1.length) : RingAt ss f x.1 := by
  obtain ⟨h1, h2, h3, h4, _, _⟩ := h.ext hx
  rw [hc] at h1
  exact ⟨h1, hl, h2, h3, h4⟩
theorem PathAt.push {ss : List Stl} {f : Nat} {e x : Way × Nat} (h : PathAt ss f e) (hx : x ∈ exts ss e.1 e.2) (hc : f < x.2) (hn : x.2 ∉ x.1.map (·.2)) : PathAt ss f x := by
  obtain ⟨h1, h2, h3, h4, _, _⟩ := h.ext hx
  exact ⟨h1, h2, h3, hn, h4, .inr hc⟩
theorem PathAt.short {n : Nat} {ss : List Stl} {f : Nat} {e : Way × Nat} (h : PathAt ss f e) (hok : WOk n ss) (hf : f < n) : e.1.length ≤ 7 ∧ e.2 < n := by
  have hn : e.2 < n := h.wk.conn.lt hok hf
  have := nodup_lt (l := e.1.map (·.2) ++ [e.2]) (n := n) (nd_snoc h.n2 h.nh) fun b hb => by
    rcases List.mem_append.mp hb with q | q
    · obtain ⟨y, hy, rfl⟩ := List.mem_map.mp q
      exact (h.wk.touch hok hy).2
    · rw [List.mem_singleton.mp q]; exact hn
  rw [List.length_append, List.length_map, List.length_singleton] at this
  have := hok.n8
  exact ⟨by omega, hn⟩
/-- how a ring goes on from an entry: it is whole, or it goes on from the longer entry -/
theorem Pend.next {ss : List Stl} {f : Nat} {e : Way × Nat} {r : Way} (h : Pend e r) (hr : RingAt ss f r) : ∃ t, (r.take (e.1.length + 1), t) ∈ exts ss e.1 e.2 ∧
    ((t = f ∧ r.take (e.1.length + 1) = r) ∨ (f < t ∧ t ∉ (r.take (e.1.length + 1)).map (·.2) ∧ Pend (r.take (e.1.length + 1), t) r)) := by
  obtain ⟨i, h1, h2⟩ := h
  obtain ⟨hw, hl, n1, n2, up⟩ := hr
  obtain ⟨s, g1, g2, g3⟩ := hw.at _ _ h2
  have hlt := (List.getElem?_eq_some_iff.mp h2).1
  have ht : r.take (e.1.length + 1) = e.1 ++ [(i, e.2)] := by rw [idx_snoc h2, h1]
  refine ⟨s.other e.2, ?_, ?_⟩
  · rw [ht]
    refine exts_in g1 g2 ?_
    have := idx_new n1 h2
    rw [h1] at this
    exact this
  · by_cases hk : e.1.length + 1 = r.length
    · left
      refine ⟨?_, List.take_of_length_le (by omega)⟩
      rw [List.getElem?_append_right (by rw [List.length_map]; omega), List.length_map] at g3
      have : e.1.length + 1 - r.length = 0 := by omega
      rw [this] at g3
      exact (Option.some.inj g3).symm
    · right
      have hlt2 : e.1.length + 1 < r.length := by omega
      rw [List.getElem?_append_left (by rw [List.length_map]; exact hlt2), List.getElem?_map] at g3
      obtain ⟨y, hy⟩ : ∃ y, r[e.1.length + 1]? = some y := ⟨r[e.1.length + 1], by simp [hlt2]⟩
      rw [hy] at g3
      have g4 : y.2 = s.other e.2 := Option.some.inj g3
      refine ⟨?_, ?_, ?_⟩
      · rw [← g4]
        refine up y ?_
        have : (r.drop 1)[e.1.length]? = some y := by rw [List.getElem?_drop, Nat.add_comm]; exact hy
        exact List.mem_of_getElem? this
      · rw [← g4]
        intro hm
        have e2 : (r.take (e.1.length + 2)).map (·.2) = (r.take (e.1.length + 1)).map (·.2) ++ [y.2] := by rw [idx_snoc hy, List.map_append]; rfl
        have hs : ((r.take (e.1.length + 2)).map (·.2)).Nodup := by
          rw [List.map_take]
          exact n2.sublist (List.take_sublist _ _)
        rw [e2, List.nodup_append] at hs
        exact hs.2.2 _ hm _ (by simp) rfl
      · have hlen : (r.take (e.1.length + 1)).length = e.1.length + 1 := by rw [List.length_take]; omega
        refine ⟨y.1, ?_, ?_⟩
        · show r.take (r.take (e.1.length + 1)).length = _
          rw [hlen]
        · show r[(r.take (e.1.length + 1)).length]? = _
          rw [hlen, hy, ← g4]
/-- the least forms of rings -/
def LR (ss : List Stl) (x : Way) : Prop := ∃ r, IsRing ss r ∧ x = least ss r

/-! ### what else the top has written: TooMany -/
structure TxtT (K : PySem.W.Frag) (mg : Str → Option Value) (cT : Addr) : Prop where
  oex : OexC K cT
  xf : XfC K cT
  iT : ∃ (f : Addr) (fd : FuncData), PySem.W.findIn K (.ref cT) "__init__" = some (some (.ref f)) ∧ PySem.W.typeIn K (.ref f) = some (.type "function") ∧ L2.Fun K "__init__" "TooMany.__init__" (cls 5 0) f fd ∧ Binds K fd ["self", "limit"] []
  nLim : PySem.W.findIn K (.ref cT) "limit" = some none
  mgT : mg "TooMany" = some (.ref cT)
  exm : PySem.W.exmOne K (.ref cT) (.ref cT) = some true
/-- a def that may raise, called by its name -/
structure CalX (P : Program) (w : World) (K : PySem.W.Frag) (mg : Str → Option Value) (base : Heap) (k : Nat) (x : Str) (sp : Sp) : Prop where
  ex : ∃ (f : Addr) (fd : FuncData) (ps : List Str), FnOk P w K mg base (L2.CX P w) k f fd ps sp ∧ mg x = some (.ref f) ∧ PySem.W.keepIn K (.ref f) = true ∧ Binds K fd ps []
section
open PyProof.Rows
variable {P : Program} {w : World} {K : PySem.W.Frag} {mg : Str → Option Value} {base : Heap} {cT : Addr}
theorem TDef.calX {x : Str} {st : Stmt} {N ps : List Str} {k : Nat} {sp : Sp} (d : TDef K mg x st ps) (S : FnScope N ps (defScope st)) (len : ∀ vs H Q E, sp vs H Q E → vs.length = ps.length)
    (hbody : ∀ (cdv : Value) (f : Addr) (A : Around) (outer : List Env) (s : Shared) (H : Hp) (vs : List V) (Q : VK) (E : XK), Room k (A.deeper (envOfC x (defScope st) s.heap.objs.size f cdv)) → sp vs H Q E →
      ∃ t, PSs (cxOf (L2.CX P w) P w K mg base N x (defScope st) f cdv A outer s H E) (defBody st) t ∧ t { nx := fun _ H' => Q .non H', rt := Q } (start N vs) H) : CalX P w K mg base (k + 1) x sp := by
  obtain ⟨f, fd, F, hm, hb⟩ := d.ex
  exact ⟨⟨f, fd, ps, F.okX S len fun cdv A outer s H vs Q E hr h => hbody cdv f A outer s H vs Q E hr h, hm, F.kp, hb⟩⟩
def spInitT (K : PySem.W.Frag) (C : Addr) : Sp := fun vs H Q _ => ∃ (a : Addr) (n : Int), vs = [.ref a, .int n] ∧ H a = some (exo a C none) ∧ ∀ d H', (∀ c o, H c = some o → c ≠ a → H' c = some o) → H' a = some (exo a C (some d)) → H' d = some (exd d [(("limit" : Str), .int n)]) → H d = none → Q .non H'
theorem okInitT (T : TxtT K mg cT) : ∃ (f : Addr) (fd : FuncData), PySem.W.findIn K (.ref cT) "__init__" = some (some (.ref f)) ∧ PySem.W.typeIn K (.ref f) = some (.type "function") ∧ Binds K fd ["self", "limit"] [] ∧ FnOk P w K mg base L2.CX0 1 f fd ["self", "limit"] (spInitT K cT) := by
  obtain ⟨f, fd, h1, h2, F, hb⟩ := T.iT
  have sc : FnScope ["self", "limit"] ["self", "limit"] (defScope (cls 5 0)) := ⟨rfl, rfl, rfl, by decide +kernel, rfl, by decide +kernel, by decide +kernel⟩
  refine ⟨f, fd, h1, h2, hb, F.ok (k := 0) sc (fun vs H Q E h => by obtain ⟨a, n, rfl, _⟩ := h; rfl) fun cdv A outer s H vs Q E hr h => ?_⟩
  obtain ⟨a, n, rfl, ha, k⟩ := h
  refine ⟨_, pss_one (ps_ost (pv 0) (pv 1)), ?_⟩
  refine ⟨_, rfl, _, rfl, a, cT, rfl, T.oex, T.nLim, .inl ⟨ha, fun dx hdx hne => ?_⟩⟩
  refine k dx _ (fun c o e hc => ?_) upd_same ?_ hdx
  · rw [upd_ne hc, upd_ne (ne_of_none e hdx)]
    exact e
  · rw [upd_ne hne, upd_same]
theorem p_raiseT {σ : L2.St} {H : Hp} {ta : TA} {n : Int} {W : WX} (h : EvPA ta σ H [pI n]) (k : ∀ d H', Ex H H' → H' d = some (.xd [(("limit" : Str), .int n)]) → W (.ref cT) (some d) σ H') : tMkO cT (spInitT K cT) [] ta σ H fun cls d H' => W cls d σ H' := h H (Ex.refl H) _ fun vs H1 e1 ps => by
  obtain ⟨v, r, rfl, p, er⟩ := ps
  cases er
  cases p
  refine ⟨by simp, fun a ha => ⟨a, n, rfl, upd_same, fun d H' h1 h2 h3 h4 => ⟨rfl, d, _, h2, h3, ?_, ?_⟩⟩⟩
  · by_cases hd : d = a
    · subst hd
      rw [upd_same] at h4
      cases h4
    · rw [upd_ne hd] at h4
      exact h4
  · have hda : d ≠ a := fun z => by
      subst z
      rw [upd_same] at h4
      cases h4
    rw [upd_ne hda] at h4
    refine k d _ (fun c o e => ?_) upd_same
    have e1c := e1 _ _ e
    rw [upd_ne (ne_of_none e1c h4), del_ne (ne_of_none e1c ha)]
    exact h1 c o (by rw [upd_ne (ne_of_none e1c ha)]; exact e1c) (ne_of_none e1c ha)
end
end K43
set_option Elab.async false
set_option linter.all false
set_option maxRecDepth 100000
set_option maxHeartbeats 4000000
/-! k43, part M1: rings turned and turned about; the least of them. -/
namespace K43
open PySem PySem.Spec L2 Evl C8

theorem IsWalk.app {ss : List Stl} {a c : Nat} {p q : Way} : IsWalk ss a (p ++ q) c ↔ ∃ b, IsWalk ss a p b ∧ IsWalk ss b q c := by
  constructor
  · intro h
    generalize hr : p ++ q = r at h
    induction h generalizing q with
    | nil =>
      have := List.append_eq_nil_iff.mp hr
      rw [this.1, this.2]
      exact ⟨_, .nil _, .nil _⟩
    | @step b i r' s hw hs ht ih =>
      rcases List.eq_nil_or_concat q with rfl | ⟨q', x, rfl⟩
      · rw [List.append_nil] at hr
        subst hr
        exact ⟨_, .step hw hs ht, .nil _⟩
      · rw [List.concat_eq_append, ← List.append_assoc] at hr
        obtain ⟨h1, h2⟩ := List.append_inj' hr rfl
        cases h2
        obtain ⟨b', g1, g2⟩ := ih h1
        rw [List.concat_eq_append]
        exact ⟨b', g1, .step g2 hs ht⟩
  · rintro ⟨b, h1, h2⟩
    induction h2 with
    | nil => rw [List.append_nil]; exact h1
    | step hw hs ht ih =>
      rw [← List.append_assoc]
      exact .step ih hs ht
theorem IsWalk.one {ss : List Stl} {i b : Nat} {s : Stl} (hs : ss[i]? = some s) (ht : s.touch b) : IsWalk ss b [(i, b)] (s.other b) := .step (p := []) (.nil b) hs ht
/-- turned -/
def Rot (r r' : Way) : Prop := ∃ p q, r = p ++ q ∧ r' = q ++ p
theorem Rot.refl (r : Way) : Rot r r := ⟨[], r, rfl, by simp⟩
theorem Rot.symm {r r' : Way} (h : Rot r r') : Rot r' r := by
  obtain ⟨p, q, h1, h2⟩ := h
  exact ⟨q, p, h2, h1⟩
theorem Rot.trans {r r' r'' : Way} (h : Rot r r') (k : Rot r' r'') : Rot r r'' := by
  obtain ⟨p, q, rfl, rfl⟩ := h
  obtain ⟨s, t, h1, rfl⟩ := k
  rcases List.append_eq_append_iff.mp h1 with ⟨u, h2, h3⟩ | ⟨u, h2, h3⟩
  · subst h2
    subst h3
    exact ⟨u, t ++ q, by simp, by simp⟩
  · subst h2
    subst h3
    exact ⟨p ++ s, u, by simp, by simp⟩
theorem Rot.perm {r r' : Way} (h : Rot r r') : r'.Perm r := by
  obtain ⟨p, q, rfl, rfl⟩ := h
  exact List.perm_append_comm
theorem mem_turns {r r' : Way} (hr : r ≠ []) : r' ∈ turns r ↔ Rot r r' := by
  unfold turns
  rw [List.mem_map]
  constructor
  · rintro ⟨k, _, rfl⟩
    exact ⟨r.take k, r.drop k, (List.take_append_drop k r).symm, rfl⟩
  · rintro ⟨p, q, h1, rfl⟩
    have hl : 0 < r.length := List.length_pos_iff.mpr hr
    by_cases hq : q = []
    · subst hq
      refine ⟨0, List.mem_range.mpr hl, ?_⟩
      rw [h1]; simp
    · refine ⟨p.length, List.mem_range.mpr ?_, ?_⟩
      · have := List.length_pos_iff.mpr hq
        rw [h1, List.length_append]; omega
      · rw [h1]; simp
theorem back_app (ss : List Stl) (p q : Way) : back ss (p ++ q) = back ss q ++ back ss p := by
  unfold back
  rw [List.reverse_append, List.map_append]
theorem Rot.back {ss : List Stl} {r r' : Way} (h : Rot r r') : Rot (back ss r) (back ss r') := by
  obtain ⟨p, q, rfl, rfl⟩ := h
  rw [back_app, back_app]
  exact ⟨_, _, rfl, rfl⟩
theorem Stl.other_other {s : Stl} (hne : s.u ≠ s.v) {b : Nat} (ht : s.touch b) : s.other (s.other b) = b ∧ s.touch (s.other b) := by
  unfold Stl.other Stl.touch
  rcases ht with h | h
  · rw [if_pos h, if_neg hne]
    exact ⟨h, .inr rfl⟩
  · have h2 : ¬ s.u = b := fun z => hne (z.trans h.symm)
    rw [if_neg h2, if_pos rfl]
    exact ⟨h, .inl rfl⟩
/-- no stall joins a ware with itself -/
def Ne (ss : List Stl) : Prop := ∀ s ∈ ss, s.u ≠ s.v
theorem WOk.nes {n : Nat} {ss : List Stl} (h : WOk n ss) : Ne ss := fun s hs => (h.ok s hs).ne
theorem back_walk {ss : List Stl} (hne : Ne ss) {a b : Nat} {r : Way} (h : IsWalk ss a r b) : IsWalk ss b (back ss r) a := by
  induction h with
  | nil => exact .nil _
  | @step b i p s hw hs ht ih =>
    have ho := Stl.other_other (hne s (List.mem_of_getElem? hs)) ht
    rw [back_app]
    refine IsWalk.app.mpr ⟨b, ?_, ih⟩
    have e : back ss [(i, b)] = [(i, s.other b)] := by
      unfold back
      simp [otherAt_at hs]
    rw [e]
    have := IsWalk.one hs ho.2
    rw [ho.1] at this
    exact this
theorem back_back {ss : List Stl} (hne : Ne ss) {a b : Nat} {r : Way} (h : IsWalk ss a r b) : back ss (back ss r) = r := by
  induction h with
  | nil => rfl
  | @step b i p s hw hs ht ih =>
    have ho := Stl.other_other (hne s (List.mem_of_getElem? hs)) ht
    rw [back_app, back_app, ih]
    congr 1
    unfold back
    simp [otherAt_at hs, ho.1]
theorem back_idx (ss : List Stl) (r : Way) : (back ss r).map (·.1) = (r.map (·.1)).reverse := by
  unfold back
  rw [List.map_map, ← List.map_reverse]
  rfl
theorem back_len (ss : List Stl) (r : Way) : (back ss r).length = r.length := by unfold back; rw [List.length_map, List.length_reverse]
/-- the wares come to -/
theorem others_eq {ss : List Stl} {a b : Nat} {r : Way} (h : IsWalk ss a r b) : r.map (otherAt ss) = (r.map (·.2) ++ [b]).drop 1 := by
  apply List.ext_getElem?
  intro k
  rw [List.getElem?_map, List.getElem?_drop, Nat.add_comm]
  cases hk : r[k]? with
  | none =>
    have : r.length ≤ k := List.getElem?_eq_none_iff.mp hk
    rw [List.getElem?_eq_none (by simp; omega)]
    rfl
  | some x =>
    obtain ⟨s, h1, h2, h3⟩ := h.at k x hk
    obtain ⟨i, w⟩ := x
    rw [h3]
    show some (otherAt ss (i, w)) = _
    rw [otherAt_at h1]
theorem IsRing.rot {ss : List Stl} {r r' : Way} (h : IsRing ss r) (k : Rot r r') : IsRing ss r' := by
  obtain ⟨a, hw, hl, n1, n2⟩ := h
  obtain ⟨p, q, rfl, rfl⟩ := k
  obtain ⟨b, h1, h2⟩ := IsWalk.app.mp hw
  refine ⟨b, IsWalk.app.mpr ⟨a, h2, h1⟩, by rw [List.length_append] at hl ⊢; omega, ?_, ?_⟩
  · rw [List.map_append] at n1 ⊢
    exact List.perm_append_comm.nodup n1
  · rw [List.map_append] at n2 ⊢
    exact List.perm_append_comm.nodup n2
theorem IsRing.back {ss : List Stl} {r : Way} (hne : Ne ss) (h : IsRing ss r) : IsRing ss (back ss r) := by
  obtain ⟨a, hw, hl, n1, n2⟩ := h
  refine ⟨a, back_walk hne hw, by rw [back_len]; exact hl, ?_, ?_⟩
  · rw [back_idx]
    exact (List.reverse_perm _).symm.nodup n1
  · have e : (K43.back ss r).map (·.2) = (r.map (otherAt ss)).reverse := by
      unfold K43.back
      rw [List.map_map, ← List.map_reverse]
      rfl
    rw [e, others_eq hw]
    refine (List.reverse_perm _).symm.nodup ?_
    have hh := hw.head
    cases r with
    | nil => simp at hl
    | cons x r =>
      simp only [List.map_cons, List.cons_append, List.getElem?_cons_zero, Option.some.injEq] at hh
      rw [List.map_cons] at n2
      simp only [List.map_cons, List.cons_append, List.drop_succ_cons, List.drop_zero]
      rw [← hh]
      exact (List.perm_append_comm (l₁ := [x.2])).nodup n2
theorem IsRing.ne {ss : List Stl} {r : Way} (h : IsRing ss r) : r ≠ [] := by
  obtain ⟨a, _, hl, _⟩ := h
  rintro rfl
  simp at hl
/-- r' is r turned, or turned about -/
def Same2 (ss : List Stl) (r r' : Way) : Prop := Rot r r' ∨ Rot (back ss r) r'
theorem mem_forms {ss : List Stl} {r r' : Way} (hr : r ≠ []) : r' ∈ turns r ++ turns (back ss r) ↔ Same2 ss r r' := by
  have hb : back ss r ≠ [] := fun z => hr (List.eq_nil_of_length_eq_zero (by rw [← back_len ss, z]; rfl))
  rw [List.mem_append, mem_turns hr, mem_turns hb]
  rfl
theorem Same2.refl (ss : List Stl) (r : Way) : Same2 ss r r := .inl (Rot.refl r)
theorem Same2.symm {ss : List Stl} {r r' : Way} (hne : Ne ss) (hr : IsRing ss r) (h : Same2 ss r r') : Same2 ss r' r := by
  rcases h with h | h
  · exact .inl h.symm
  · right
    obtain ⟨a, hw, _⟩ := hr
    have := (h.symm.back (ss := ss))
    rw [back_back hne hw] at this
    exact this
theorem Same2.trans {ss : List Stl} {r r' r'' : Way} (hne : Ne ss) (hr : IsRing ss r) (h : Same2 ss r r') (k : Same2 ss r' r'') : Same2 ss r r'' := by
  rcases h with h | h
  · rcases k with k | k
    · exact .inl (h.trans k)
    · exact .inr (h.back.trans k)
  · rcases k with k | k
    · exact .inr (h.trans k)
    · left
      obtain ⟨a, hw, _⟩ := hr
      have := h.back (ss := ss)
      rw [back_back hne hw] at this
      exact this.trans k
theorem Same2.ring {ss : List Stl} {r r' : Way} (hne : Ne ss) (hr : IsRing ss r) (h : Same2 ss r r') : IsRing ss r' := by
  rcases h with h | h
  · exact hr.rot h
  · exact (hr.back hne).rot h
theorem Same2.idx {ss : List Stl} {r r' : Way} (h : Same2 ss r r') : (r'.map (·.1)).Perm (r.map (·.1)) := by
  rcases h with h | h
  · exact h.perm.map _
  · have := h.perm.map (·.1)
    rw [back_idx] at this
    exact this.trans (List.reverse_perm _)
/-! ### the least of a list -/
theorem wle_refl (p : Way) : wle p p = true := decide_eq_true (List.le_refl _)
theorem flat_inj : ∀ {p q : Way}, flat p = flat q → p = q
  | [], [], _ => rfl
  | [], y :: q, h => by simp [flat] at h
  | x :: p, [], h => by simp [flat] at h
  | x :: p, y :: q, h => by
    simp only [flat, List.flatMap_cons, List.cons_append, List.nil_append, List.cons.injEq] at h
    obtain ⟨h1, h2, h3⟩ := h
    rw [flat_inj (p := p) (q := q) h3]
    congr 1
    exact Prod.ext (by omega) (by omega)
theorem wle_anti {p q : Way} (h1 : wle p q = true) (h2 : wle q p = true) : p = q := flat_inj (List.le_antisymm (of_decide_eq_true h1) (of_decide_eq_true h2))
theorem wle_trans {p q r : Way} (h1 : wle p q = true) (h2 : wle q r = true) : wle p r = true := decide_eq_true (List.le_trans (of_decide_eq_true h1) (of_decide_eq_true h2))
theorem wle_total (p q : Way) : (wle p q || wle q p) = true := by
  rw [Bool.or_eq_true]
  rcases List.le_total (flat p) (flat q) with h | h
  · exact .inl (decide_eq_true h)
  · exact .inr (decide_eq_true h)
theorem sorted_eq {l m : List Way} (h1 : l.Nodup) (h2 : m.Nodup) (hs : m.Pairwise fun a b => wle a b = true) (hm : ∀ x, x ∈ l ↔ x ∈ m) : l.mergeSort wle = m := by
  refine List.Perm.eq_of_pairwise (le := fun a b => wle a b = true) (fun a b _ _ => wle_anti) (List.pairwise_mergeSort (le := wle) (fun a b c => wle_trans) wle_total l) hs ?_
  exact (List.mergeSort_perm l wle).trans ((List.perm_ext_iff_of_nodup h1 h2).mpr hm)
theorem minW_spec : ∀ (ws : List Way) (x : Way), minW x ws ∈ x :: ws ∧ ∀ y ∈ x :: ws, wle (minW x ws) y = true
  | [], x => ⟨List.mem_cons_self .., fun y hy => by rw [List.mem_singleton.mp hy]; exact wle_refl _⟩
  | z :: ws, x => by
    by_cases h : flat z < flat x
    · have e : minW x (z :: ws) = minW z ws := by
        show ws.foldl (fun a y => if flat y < flat a then y else a) (if flat z < flat x then z else x) = _
        rw [if_pos h]
        rfl
      rw [e]
      obtain ⟨h1, h2⟩ := minW_spec ws z
      refine ⟨List.mem_cons_of_mem _ h1, fun y hy => ?_⟩
      rcases List.mem_cons.mp hy with rfl | hy
      · exact wle_trans (h2 z (List.mem_cons_self ..)) (decide_eq_true (List.le_of_lt h))
      · exact h2 y hy
    · have e : minW x (z :: ws) = minW x ws := by
        show ws.foldl (fun a y => if flat y < flat a then y else a) (if flat z < flat x then z else x) = _
        rw [if_neg h]
        rfl
      rw [e]
      obtain ⟨h1, h2⟩ := minW_spec ws x
      refine ⟨?_, fun y hy => ?_⟩
      · rcases List.mem_cons.mp h1 with h1 | h1
        · rw [h1]; exact List.mem_cons_self ..
        · exact List.mem_cons_of_mem _ (List.mem_cons_of_mem _ h1)
      · rcases List.mem_cons.mp hy with rfl | hy
        · exact h2 y (List.mem_cons_self ..)
        · rcases List.mem_cons.mp hy with rfl | hy
          · exact wle_trans (h2 x (List.mem_cons_self ..)) (decide_eq_true (List.not_lt.mp h))
          · exact h2 y (List.mem_cons_of_mem _ hy)
theorem leastOf_spec {l : List Way} (h : l ≠ []) : leastOf l ∈ l ∧ ∀ y ∈ l, wle (leastOf l) y = true := by
  cases l with
  | nil => exact absurd rfl h
  | cons x ws => exact minW_spec ws x
theorem least_same {ss : List Stl} {r : Way} (hr : r ≠ []) : Same2 ss r (least ss r) := by
  refine (mem_forms hr).mp (leastOf_spec ?_).1
  intro z
  have := (mem_forms (ss := ss) hr).mpr (Same2.refl ss r)
  rw [z] at this
  cases this
theorem least_eq_of {ss : List Stl} {r r' : Way} (hne : Ne ss) (hr : IsRing ss r) (h : Same2 ss r r') : least ss r' = least ss r := by
  have hr' := h.ring hne hr
  have h1 := least_same (ss := ss) hr.ne
  have h2 := least_same (ss := ss) hr'.ne
  have low : ∀ {q q' : Way}, q ≠ [] → Same2 ss q q' → wle (least ss q) q' = true := fun {q q'} hq hs => by
    refine (leastOf_spec ?_).2 _ ((mem_forms hq).mpr hs)
    intro z
    have := (mem_forms (ss := ss) hq).mpr (Same2.refl ss q)
    rw [z] at this
    cases this
  refine wle_anti (low hr'.ne ?_) (low hr.ne ?_)
  · exact (h.symm hne hr).trans hne hr' h1
  · exact h.trans hne hr h2
theorem least_ring {ss : List Stl} {r : Way} (hne : Ne ss) (hr : IsRing ss r) : IsRing ss (least ss r) := (least_same hr.ne).ring hne hr
theorem least_ne {ss : List Stl} {r : Way} (hne : Ne ss) (hr : IsRing ss r) : least ss r ≠ [] := (least_ring hne hr).ne
/-- every ring, turned so that its least ware is the first -/
theorem min_split : ∀ {r : Way}, r ≠ [] → ∃ p x q, r = p ++ x :: q ∧ ∀ y ∈ r, x.2 ≤ y.2
  | [x], _ => ⟨[], x, [], rfl, fun y hy => by rw [List.mem_singleton.mp hy]; exact Nat.le_refl _⟩
  | x :: z :: r, _ => by
    obtain ⟨p, y, q, h1, h2⟩ := min_split (r := z :: r) (by simp)
    by_cases h : x.2 ≤ y.2
    · refine ⟨[], x, z :: r, rfl, fun w hw => ?_⟩
      rcases List.mem_cons.mp hw with rfl | hw
      · exact Nat.le_refl _
      · exact Nat.le_trans h (h2 w hw)
    · refine ⟨x :: p, y, q, by rw [h1]; rfl, fun w hw => ?_⟩
      rcases List.mem_cons.mp hw with rfl | hw
      · omega
      · exact h2 w hw
theorem ring_first {n : Nat} {ss : List Stl} (hok : WOk n ss) {r : Way} (hr : IsRing ss r) : ∃ f r', f < n ∧ RingAt ss f r' ∧ least ss r' = least ss r := by
  obtain ⟨p, x, q, h1, h2⟩ := min_split hr.ne
  have hrot : Rot r (x :: q ++ p) := ⟨p, x :: q, h1, rfl⟩
  have hr' := hr.rot hrot
  obtain ⟨a, hw, hl, n1, n2⟩ := id hr'
  have hh := hw.head
  have ha : a = x.2 := by
    simp at hh
    exact hh.symm
  refine ⟨a, x :: q ++ p, ?_, ⟨hw, hl, n1, n2, fun y hy => ?_⟩, least_eq_of hok.nes hr (.inl hrot)⟩
  · rw [ha]
    exact (hw.touch hok (x := x) (by simp)).2
  · have hy' : y ∈ q ++ p := by simpa using hy
    have h3 : x.2 ≤ y.2 := h2 y (hrot.perm.mem_iff.mp (by simp at hy' ⊢; exact .inr hy'))
    have h4 : x.2 ≠ y.2 := by
      intro z
      have n3 : (x.2 :: (q ++ p).map (·.2)).Nodup := by simpa using n2
      exact (List.nodup_cons.mp n3).1 (z ▸ List.mem_map_of_mem hy')
    rw [ha]
    omega
end K43
set_option Elab.async false
set_option linter.all false
set_option maxRecDepth 100000
set_option maxHeartbeats 4000000
/-! k43, part FE: rings. -/
namespace K43
open PySem PySem.Spec L2 Evl C8
def extD (e : Way × Nat) : PyData := .tuple [wayD e.1, .int (e.2 : Int)]
theorem noList_ext (e : Way × Nat) : noList (extD e) = true := by simp [extD, noList, noListAll, noList_way]
theorem noList_exts : ∀ es : List (Way × Nat), noListAll (es.map extD) = true
  | [] => by simp [noListAll]
  | e :: es => by rw [List.map_cons, noListAll, noList_exts es, noList_ext]; rfl
theorem canLay_exts : ∀ es : List (Way × Nat), PyData.canLayAll0 (es.map extD) = true
  | [] => by simp [PyData.canLayAll0]
  | e :: es => by
    rw [List.map_cons, PyData.canLayAll0, canLay_exts es]
    simp [extD, PyData.canLay0, PyData.canLayAll0, canLay_way]
theorem depth_exts : ∀ es : List (Way × Nat), PyData.depthAll (es.map extD) ≤ 3
  | [] => by simp [PyData.depthAll]
  | e :: es => by
    have h := depth_exts es
    have h1 := depth_way e.1
    have h2 : PyData.depth (extD e) ≤ 3 := by
      simp only [extD, PyData.depth, PyData.depthAll]
      omega
    rw [List.map_cons, PyData.depthAll]
    omega
theorem shaped_exts (es : List (Way × Nat)) : SeqAt.shaped (.list (es.map extD)) = true := by
  unfold SeqAt.shaped
  rw [PyData.canLay0, canLay_exts, PyData.depth]
  have := depth_exts es
  simp only [Bool.true_and, decide_eq_true_iff]
  omega
theorem ext_D {K : PySem.W.Frag} {e : Way × Nat} {v : V} {H : Hp} (h : (pExt K e).p v H) : Dp K H v (extD e) := by
  obtain ⟨a, xs, rfl, h1, x, _, rfl, px, y, _, rfl, py, er⟩ := h
  cases er
  cases py
  exact .tup h1 (.cons px (.cons (.int _) .nil))
theorem D_ext {K : PySem.W.Frag} {e : Way × Nat} {v : V} {H : Hp} (h : Dp K H v (extD e)) : ∃ a x, v = .ref a ∧ SqT K H a [x, .int (e.2 : Int)] ∧ Dp K H x (wayD e.1) := by
  obtain ⟨a, xs, rfl, h1, h2⟩ := Dp.tup_inv (show Dp K H v (.tuple [wayD e.1, .int (e.2 : Int)]) from h)
  cases h2 with | cons d1 h2 => cases h2 with | cons d2 h2 =>
  cases h2
  cases d2
  exact ⟨a, _, rfl, h1, d1⟩
section
variable {P : Program} {w : World} {K : PySem.W.Frag} {mg : Str → Option Value} {base : Heap} {cE cW cT : Addr} {σ : L2.St} {H : Hp} {te tx : TE}
theorem NDKeys.fx {H H' : Hp} {xs : List (Way × Addr)} (e : ExF H H') (h : NDKeys K H xs) : NDKeys K H' xs := ⟨h.1, fun x hx => Dp.fx e (noList_way _) (h.2 x hx)⟩
theorem ndPut_mem {xs : List (Way × Addr)} {r x : Way} {a : Addr} : x ∈ (ndPut xs r a).map (·.1) ↔ x = r ∨ x ∈ xs.map (·.1) := by
  unfold ndPut
  split
  · rename_i h
    constructor
    · exact .inr
    · rintro (rfl | q)
      · exact h
      · exact q
  · rw [List.map_append, List.mem_append]
    simp only [List.map_cons, List.map_nil, List.mem_singleton]
    exact Or.comm
theorem ndPut_keys {xs : List (Way × Addr)} {r : Way} {a : Addr} {H : Hp} (h : NDKeys K H xs) (hr : Dp K H (.ref a) (wayD r)) : NDKeys K H (ndPut xs r a) := by
  unfold ndPut
  split
  · exact h
  · rename_i hn
    refine ⟨?_, fun x hx => ?_⟩
    · rw [List.map_append]
      exact nd_snoc h.1 hn
    · rcases List.mem_append.mp hx with q | q
      · exact h.2 x q
      · rw [List.mem_singleton.mp q]; exact hr
theorem ep_ways {n : Nat} {ss : List Stl} {p : Way} {here : Nat} {E : XK} {ta : TA} (hok : WOk n ss) (hl : p.length ≤ 100) (ha : EvPA ta σ H [pW K cW n ss, pD K (wayD p), pI (here : Int)]) : EvP (tCall (spWays K cW) [] E ta) σ H (pLN H ((exts ss p here).map (pExt K))) := fun H1 e Q q =>
  ha H1 e _ fun vs H2 e2 ps => by
    obtain ⟨v1, _, rfl, p1, v2, _, rfl, p2, v3, _, rfl, p3, er⟩ := ps
    cases er
    cases p3
    exact ⟨n, ss, v1, v2, p, here, hok, rfl, p1, p2, hl, fun a xs H' e3 h1 h2 h3 => q _ _ (e2.trans e3) ⟨a, xs, rfl, fresh_back (e.trans e2) h1, h2, h3⟩⟩
theorem ep_dnewN : EvP (tDNewN w) σ H ⟨fun x H' => ∃ p, x = .ref p ∧ H p = none ∧ H' p = some (ND w p []), fun e ⟨p, h1, h2, h3⟩ => ⟨p, h1, h2, e _ _ h3⟩⟩ := fun H1 e Q q p hp =>
  q _ _ (Ex.new hp) ⟨p, rfl, fresh_back e hp, upd_same⟩
theorem ep_ext {ta tb : TE} {p : Way} {t : Nat} (h1 : EvP ta σ H (pD K (wayD p))) (h2 : EvP tb σ H (pI (t : Int))) : EvP (tTup (tCons ta (tCons tb tNil))) σ H (pD K (extD (p, t))) :=
  (ep_tup (K := K) (ea_cons h1 (ea_cons h2 ea_nil)) (by simp)).imp fun v H' _ q => by
    obtain ⟨a, xs, rfl, h, x, _, rfl, px, y, _, rfl, py, e⟩ := q
    cases e
    cases py
    exact .tup h (.cons px (.cons (.int _) .nil))
theorem ep_lenN {F : Addr} {xs : List (Way × Addr)} (hF : H F = some (ND w F xs)) (hl : xs.length ≤ 1000) (h : EvP te σ H (pV (.ref F))) : EvP (tCB (rLenN w) (tCons te tNil)) σ H (pI (xs.length : Nat)) := fun H1 e Q q => h H1 e _ fun v H2 e2 p => by
  obtain rfl : v = .ref F := p
  exact ⟨F, xs, rfl, (e.trans e2) _ _ hF, hl, q _ H2 e2 rfl⟩
theorem ep_sortedN {F : Addr} {xs : List (Way × Addr)} {L : List Way} (hF : H F = some (ND w F xs)) (hl : xs.length ≤ 1000) (hk : NDKeys K H xs) (hne : ∀ b ∈ xs.map (·.1), b ≠ []) (hL : (xs.map (·.1)).mergeSort wle = L) (h : EvP te σ H (pV (.ref F))) :
    EvP (tCB (rSortedW K) (tCons (tCB (rListN w) (tCons te tNil)) tNil)) σ H ⟨fun v H' => ∃ a ys, v = .ref a ∧ H a = none ∧ H' a = some (.lst ys) ∧ DpAll K H' ys (L.map wayD), fun e ⟨a, ys, h1, h2, h3, h4⟩ => ⟨a, ys, h1, h2, e _ _ h3, DpAll.up e h4⟩⟩ := fun H1 e Q q => h H1 e _ fun v H2 e2 p => by
  obtain rfl : v = .ref F := p
  have e02 := e.trans e2
  refine ⟨F, xs, rfl, e02 _ _ hF, hl, fun p hp => ?_⟩
  have dA : DpAll K (upd H2 p (.lst (xs.map fun x => V.ref x.2))) (xs.map fun x => V.ref x.2) ((xs.map (·.1)).map wayD) := by
    have key : ∀ l : List (Way × Addr), (∀ x ∈ l, Dp K (upd H2 p (.lst (xs.map fun x => V.ref x.2))) (.ref x.2) (wayD x.1)) → DpAll K (upd H2 p (.lst (xs.map fun x => V.ref x.2))) (l.map fun x => V.ref x.2) ((l.map (·.1)).map wayD) := by
      intro l
      induction l with
      | nil => exact fun _ => .nil
      | cons x l ih => exact fun hx => .cons (hx x (List.mem_cons_self ..)) (ih fun y hy => hx y (List.mem_cons_of_mem _ hy))
    exact key xs fun x hx => Dp.up (e02.trans (Ex.new hp)) (hk.2 x hx)
  refine ⟨p, _, xs.map (·.1), rfl, SqL.of upd_same, dA, hne, fun p2 ys hp2 dy => ?_⟩
  rw [hL] at dy
  have hpp : H2 p2 = none := by
    by_cases h : p2 = p
    · subst h; exact hp
    · rw [upd_ne h] at hp2; exact hp2
  exact q _ _ (e2.trans ((Ex.new hp).trans (Ex.new hp2))) ⟨p2, ys, rfl, fresh_back e02 hpp, upd_same, DpAll.up (Ex.new hp2) dy⟩
variable {D : Ends} {tz : TS}
theorem p_setN {F : Addr} {xs : List (Way × Addr)} {r : Way} {to ti : TE} (ho : EvP to σ H (pV (.ref F))) (hi : EvP ti σ H (pD K (wayD r))) (hF : H F = some (ND w F xs)) (hk : NDKeys K H xs) (hz : xs.length ≤ 1000)
    (k : ∀ a H2, Ex H H2 → Dp K H2 (.ref a) (wayD r) → tz D σ (upd H2 F (ND w F (ndPut xs r a)))) : tSeq (tAsg (tC (.bl true)) (gSub to ti (rSetN K w))) tz D σ H :=
  ho H (Ex.refl H) _ fun v H1 e1 p1 => hi H1 e1 _ fun v2 H2 e2 p2 => by
    obtain rfl : v = .ref F := p1
    obtain ⟨a, ys, rfl, _, _⟩ := Dp.tup_inv (show Dp K H2 v2 (.tuple (r.map pairD)) from p2)
    have e02 := e1.trans e2
    exact ⟨F, a, xs, r, rfl, rfl, rfl, e02 _ _ hF, ⟨hk.1, fun x hx => Dp.up e02 (hk.2 x hx)⟩, p2, hz, k a H2 e02 p2⟩
theorem p_popT {l a : Addr} {acc : List V} {x y : V} {i j : Nat} {ta : TE} (hl : H l = some (.lst (acc ++ [.ref a]))) (hT : SqT K H a [x, y]) (ha : EvP ta σ H (pV (.ref l))) (k : ∀ H1, Ex H H1 → tz D ((σ.set i (some x)).set j (some y)) (upd H1 l (.lst acc))) :
    tSeq (tAsg (tBM0 K "list" rPop ta) (gTup K 2 (gCons (gName i) (gCons (gName j) gNil)))) tz D σ H :=
  q_pop hl ha fun H1 e1 => ⟨a, [x, y], rfl, sqT_lst (e1 _ _ hl) (ex_t e1 hT), rfl, _, _, rfl, _, _, rfl, rfl, k H1 e1⟩
theorem ep_wares2 {r : Way} {j1 j2 : Nat} {vs : List Nat} {tl : TE} (h : EvP tl σ H (pD K (.tuple (r.map pairD)))) (hz : r.length ≤ 10000) (hw : ∀ x y, wipe (((wipe σ vs).set j1 (some x)).set j2 (some y)) vs = wipe σ vs)
    (hj : ∀ x y : V, True → (((wipe σ vs).set j1 (some x)).set j2 (some y))[j2]? = some (some y) ∧ True) : EvP (tLc (iTup K tl) (gTup K 2 (gCons (gName j1) (gCons (gName j2) gNil))) tYes (tVar j2) vs) σ H (pD K (.list ((ofN (r.map (·.2))).map .int))) :=
  (ep_lcT2 (K := K) (bs := r) (s1 := fun b => pI (b.1 : Int)) (s2 := fun b => pI (b.2 : Int)) (res := fun b => pI (b.2 : Int)) (way_pT h) hz hw (fun b hb x y H1 e1 px py => ep_var (hj x y trivial).1 py) (fun b hb => st_I)).imp fun v H' _ q => by
    obtain ⟨a, xs, rfl, h1, h2⟩ := q
    have e : (r.map fun b => pI (b.2 : Int)) = (ofN (r.map (·.2))).map pI := by
      unfold ofN
      rw [List.map_map, List.map_map]
      rfl
    rw [e] at h2
    rw [alls_ints h2] at h1
    exact .lst h1 ints_DpAll
theorem q_ifE {D : Ends} {tu tw : TS} {t : TT} {b : Bool} (h : EvT t σ H b) (h1 : b = true → ∀ H1, Ex H H1 → tu D σ H1) (h2 : b = false → ∀ H1, Ex H H1 → tw D σ H1) : tIfS t tu tw D σ H := s_if h h1 h2
/-- rings(web): sorted, each once; or, if they are more than 200, TooMany -/
def spRings (K : PySem.W.Frag) (cW cT : Addr) : Sp := fun vs H Q E => ∃ (n : Nat) (ss : List Stl) (v : V) (L : List Way), WOk n ss ∧ vs = [v] ∧ (pW K cW n ss).p v H ∧ L.Pairwise (fun a b => wle a b = true) ∧ L.Nodup ∧ (∀ x, x ∈ L ↔ LR ss x) ∧
  (L.length ≤ 200 → ∀ a xs H', Ex H H' → H a = none → H' a = some (.lst xs) → DpAll K H' xs (L.map wayD) → Q (.ref a) H') ∧
  (200 < L.length → ∀ d H', Ex H H' → H' d = some (.xd [(("limit" : Str), .int 200)]) → E (.ref cT) (some d) H')
structure RgI (K : PySem.W.Frag) (w : World) (ss : List Stl) (H H' : Hp) (F : Addr) (xs : List (Way × Addr)) : Prop where
  ex : Ex H H'
  nF : H F = none
  hF : H' F = some (ND w F xs)
  nk : NDKeys K H' xs
  lr : ∀ x ∈ xs.map (·.1), LR ss x
  le : xs.length ≤ 200
theorem RgI.ups {ss : List Stl} {H H' H'' : Hp} {F : Addr} {xs : List (Way × Addr)} (h : RgI K w ss H H' F xs) (e : Ex H H'') (ef : ExF H' H'') (eF : H'' F = H' F) : RgI K w ss H H'' F xs := ⟨e, h.nF, eF.trans h.hF, h.nk.fx ef, h.lr, h.le⟩
theorem RgI.up {ss : List Stl} {H H' H'' : Hp} {F : Addr} {xs : List (Way × Addr)} (h : RgI K w ss H H' F xs) (e : Ex H' H'') : RgI K w ss H H'' F xs := h.ups (h.ex.trans e) (ExF.of e) ((e _ _ h.hF).trans h.hF.symm)
theorem RgI.lst {ss : List Stl} {H H' : Hp} {F W : Addr} {xs : List (Way × Addr)} {ys zs : List V} (h : RgI K w ss H H' F xs) (hW : H' W = some (.lst ys)) (nW : H W = none) : RgI K w ss H (upd H' W (.lst zs)) F xs :=
  h.ups (Ex.mut h.ex nW) (ExF.upd hW rfl) (upd_ne (ne_of h.hF hW (by intro z; cases (show HO.ext _ = HO.lst ys from z))))
theorem ok39 (T : Txt K mg cE cW) (TT : TxtT K mg cT) : CalX P w K mg base 5 "rings" (spRings K cW cT) := by
  have sc0 : FnScope ["web", "found", "first", "waiting", "way", "here", "longer", "there", "index", "ware"] ["web"] (defScope (top 39)) := ⟨rfl, rfl, rfl, by decide +kernel, rfl, by decide +kernel, by decide +kernel⟩
  refine T.d39.calX sc0 (fun vs H Q E h => by obtain ⟨n, ss, v, L, _, rfl, _⟩ := h; rfl) fun cdv f A outer s H vs Q E hr h => ?_
  obtain ⟨n, ss, v, L, hok, rfl, pw, lsort, lnd, lmem, kQ, kE⟩ := h
  obtain ⟨tMR, cMR⟩ := T.cMR
  obtain ⟨fI, fdI, iC, tI, bI, FI⟩ := okInitT (P := P) (w := w) (base := base) TT
  have n8 := hok.n8
  have l16 := hok.len
  refine ⟨_, pss_cons (ps_set (i := 1) sc0.nd rfl (.inl rfl) (pe_dnewN))
    (pss_cons (ps_for (passes_of rfl) rfl (pi_range1 rfl T.b_range (pa_cons (pe_fld (pv 0) rfl) (pa_nil))) (pg_name (i := 2) sc0.nd rfl (.inl rfl)) (pss_cons (ps_set (i := 3) sc0.nd rfl (.inl rfl) (pe_lst (pa_cons (pe_tup (pa_cons (pe_tup (pa_nil)) (pa_cons (pv 2) (pa_nil)))) (pa_nil))))
    (pss_one (ps_while (passes_of rfl) (pt_cmpR (op_neD hr.units) (pv 3) (pe_lst (pa_nil)) (nomark _)) (pss_cons (ps_asg (pe_bm0 PySem.F.plainAttrs_list PySem.F.slot_list_pop PySem.F.type_list_pop mt_pop (pv 3)) (pg_tup rfl (pgs_cons (pg_name (i := 4) sc0.nd rfl (.inl rfl)) (pgs_cons (pg_name (i := 5) sc0.nd rfl (.inl rfl)) (pgs_nil)))))
    (pss_one (ps_for (passes_of rfl) rfl (pi_list (pe_c (ok38 T) hr (by decide) rfl (pa_cons (pv 0) (pa_cons (pv 4) (pa_cons (pv 5) (pa_nil)))))) (pg_tup rfl (pgs_cons (pg_name (i := 6) sc0.nd rfl (.inl rfl)) (pgs_cons (pg_name (i := 7) sc0.nd rfl (.inl rfl)) (pgs_nil)))) (pss_one (ps_if (PW.pt (pw_and (pt_cmpR op_eq (pv 7) (pv 2) (nomark _)) (pw_and1 (pt_cmpR op_gt (pe_callB (call_len_seq) (by rfl) T.b_len (by decide +kernel) (pa_cons (pv 6) (pa_nil))) (pe_int) (nomark _))))) (pss_cons (ps_asg (pe_bl) (pg_sub (pv 1) (pe_c (ok37 T) hr (by decide) rfl (pa_cons (pv 0) (pa_cons (pv 6) (pa_nil)))) (set_nd (Nat.lt_of_le_of_lt (Nat.add_le_add_left (by decide : 20 ≤ 64) _) hr.units))))
    (pss_one (ps_if (pt_cmpR op_gt (pe_callB (call_lenN) (by rfl) T.b_len (by decide +kernel) (pa_cons (pv 1) (pa_nil))) (pe_glob (v := .int 200) rfl cMR ⟨_, rfl⟩) (nomark _)) (pss_one (ps_raise rfl (takes_of rfl rfl rfl rfl) (pmk_oex TT.oex iC tI FI (hr.mono (by decide)) bI .nil C8.pass0 rfl TT.mgT (pa_cons (pe_glob (v := .int 200) rfl cMR ⟨_, rfl⟩) pa_nil)))) (pss_nil)))) (pss_one (ps_if (PW.pt (pw_and (pt_cmpR op_gt (pv 7) (pv 2) (nomark _)) (pw_and1 (pt_cmpR op_notIn_seq (pv 7) (pe_lc (own := [("index", 8), ("ware", 9)]) (g := gTup K 2 (gCons (gName 8) (gCons (gName 9) (gNil)))) (by rfl) sc0.nd (pi_tup (pv 6)) (blkOk_by (N := ["web", "found", "first", "waiting", "way", "here", "longer", "there", "index", "ware"]) (sc := defScope (top 39)) (by decide +kernel)) (fun _ _ _ _ _ => pg_tup rfl (pgs_cons (pg_name (i := 8) sc0.nd rfl (.inl rfl)) (pgs_cons (pg_name (i := 9) sc0.nd rfl (.inl rfl)) (pgs_nil)))) (fun _ _ _ _ _ => pts_nil) (fun _ _ _ _ _ => pv 9)) rfl)))) (pss_one (ps_expr (pe_bm PySem.F.plainAttrs_list PySem.F.slot_list_append PySem.F.type_list_append mt_append (pv 3) (pa_cons (pe_tup (pa_cons (pv 6) (pa_cons (pv 7) (pa_nil)))) (pa_nil))))) (pss_nil))))))))))))
    (pss_one (ps_ret (pe_callB (cr_sortedW (Nat.lt_of_le_of_lt (Nat.add_le_add_left (by decide : 8 ≤ 64) _) hr.units)) (by rfl) T.b_sorted (by decide +kernel) (pa_cons (pe_callTy (call_listN rfl) (by rfl) T.b_list (by decide +kernel) (pa_cons (pv 1) (pa_nil))) (pa_nil)))))), ?_⟩
  refine p_asg ep_dnewN fun v1 H1 e1 p1 => ?_
  obtain ⟨F, rfl, nF, hF⟩ := p1
  obtain ⟨tw, xw, hw⟩ := id pw
  have r0 : RgI K w ss H H1 F [] := ⟨e1, nF, hF, ⟨List.nodup_nil, by simp⟩, by simp, by simp⟩
  refine p_forR (n := n) (ea_cons (ep_wares T rfl (hw.up e1)) ea_nil) (by omega) (fun f σ' H' => ∃ xs a2 a3 a4 a5 a6 a7, σ' = [some v, some (.ref F), a2, a3, a4, a5, a6, a7, none, none] ∧ RgI K w ss H H' F xs ∧ ∀ f' r, f' < f → RingAt ss f' r → least ss r ∈ xs.map (·.1))
    (fun H2 e2 => ⟨[], none, none, none, none, none, none, rfl, r0.up e2, fun f' r hf => absurd hf (Nat.not_lt_zero _)⟩) ?_ ?_
  · rintro f σ' H2 hf ⟨xs, a2, a3, a4, a5, a6, a7, rfl, i2, done⟩
    refine p_asg (ep_lstN (Ps := [pD K (extD ([], f))]) (ea_cons (ep_ext (p := []) (t := f) (ep_nilT (K := K)) (ep_vi rfl)) ea_nil) (by simp)) fun v3 H3 e3 p3 => ?_
    obtain ⟨W, _, rfl, nW, hW, w1, _, rfl, pw1, er⟩ := p3
    cases er
    have nWH : H W = none := fresh_back i2.ex nW
    have i3 := i2.up e3
    refine s_while (fun m σ' H' => ∃ xs ws vs a4 a5 a6 a7, σ' = [some v, some (.ref F), some (.int (f : Nat)), some (.ref W), a4, a5, a6, a7, none, none] ∧ RgI K w ss H H' F xs ∧ H' W = some (.lst vs) ∧ DpAll K H' vs (ws.map extD) ∧ (∀ f' r, f' < f → RingAt ss f' r → least ss r ∈ xs.map (·.1)) ∧
      (∀ e ∈ ws, PathAt ss f e) ∧ (∀ (t : Nat) (e : Way × Nat), ws[t]? = some e → t ≤ 16 * e.1.length) ∧ (∀ r, RingAt ss f r → least ss r ∈ xs.map (·.1) ∨ ∃ e ∈ ws, Pend e r) ∧ mu ws ≤ m) (17 ^ 9)
      ⟨xs, [([], f)], _, a4, a5, a6, a7, rfl, i3, hW, .cons pw1 .nil, done, ?g1, ?g2, ?g3, ?g4⟩ ?_
    case g1 =>
      intro e he
      rw [List.mem_singleton.mp he]
      exact PathAt.root ss f
    case g2 =>
      intro t e he
      have := (List.getElem?_eq_some_iff.mp he).1
      simp at this
      omega
    case g3 => exact fun r hr => .inr ⟨_, List.mem_singleton.mpr rfl, Pend.root hr⟩
    case g4 => simp [mu]
    rintro m σ' H4 ⟨xs, ws, vs, a4, a5, a6, a7, rfl, i4, hW4, dW4, done, path, pos, comp, hm⟩
    refine ⟨!(ws.isEmpty), pt_test (ep_bis (ep_op (ep_var rfl (show (pD K (.list (ws.map extD))).p (.ref W) H4 from .lst (SqL.of hW4) dW4)) ep_nilL (rp_neD (shaped_exts _) shaped_nil)) (by rw [eqv_nil]; cases ws <;> rfl)), fun hb H5 e5 => ?_, fun hb H5 e5 => ?_⟩
    · have hne : ws ≠ [] := by
        rintro rfl
        cases hb
      obtain ⟨ws0, e, rfl⟩ : ∃ ws0 e, ws = ws0 ++ [e] := ⟨ws.dropLast, ws.getLast hne, (List.dropLast_concat_getLast hne).symm⟩
      have pe := path e (by simp)
      have hsh := pe.short hok hf
      have hpos := pos ws0.length e (by simp)
      have hmu := mu_snoc ws0 e
      have i5 := i4.up e5
      have hW5 := e5 _ _ hW4
      have dW5 := DpAll.up e5 dW4
      have vne : vs ≠ [] := by
        rintro rfl
        have := DpAll.len dW5
        simp at this
      obtain ⟨vs0, ve, rfl⟩ : ∃ vs0 ve, vs = vs0 ++ [ve] := ⟨vs.dropLast, vs.getLast vne, (List.dropLast_concat_getLast vne).symm⟩
      obtain ⟨dvs0, dve⟩ : DpAll K H5 vs0 (ws0.map extD) ∧ Dp K H5 ve (extD e) := by
        have l1 := DpAll.len dW5
        rw [List.length_append, List.length_map, List.length_append] at l1
        have t := DpAll.take vs0.length dW5
        rw [List.take_left, ← List.map_take, show vs0.length = ws0.length by simpa using l1, List.take_left] at t
        obtain ⟨d, h1, h2⟩ := DpAll.get (i := vs0.length) (x := ve) dW5 (by simp)
        rw [show vs0.length = ws0.length by simpa using l1, List.getElem?_map, List.getElem?_append_right (Nat.le_refl _), Nat.sub_self] at h1
        cases h1
        exact ⟨t, h2⟩
      obtain ⟨av, xv, rfl, hTv, dxv⟩ := D_ext dve
      refine ⟨_, fun σ2 H2 h => h, ?_⟩
      refine p_popT hW5 hTv (ep_vv rfl) fun H6 e6 => ?_
      have hW6 := e6 _ _ hW5
      have i6 := (i5.up e6).lst (zs := vs0) hW6 nWH
      have dxv6 : Dp K (upd H6 W (.lst vs0)) xv (wayD e.1) := Dp.lst hW6 (noList_way _) (Dp.up e6 dxv)
      have dvs6 : DpAll K (upd H6 W (.lst vs0)) vs0 (ws0.map extD) := DpAll.lst hW6 (noList_exts _) (DpAll.up e6 dvs0)
      have pw6 := PD.up _ i6.ex pw
      refine p_forLm1 (ep_ways (here := e.2) hok (by omega) (ea_cons (ep_var rfl pw6) (ea_cons (ep_var rfl (show (pD K (wayD e.1)).p xv _ from dxv6)) (ea_cons (ep_vi rfl) ea_nil)))) fun vL H7 e7 p7 => ?_
      obtain ⟨Lx, ys, rfl, nLx, hLx, aLx⟩ := p7
      have nLW : Lx ≠ W := fun z => by
        subst z
        rw [upd_same] at nLx
        cases nLx
      have nLF : Lx ≠ F := fun z => by
        subst z
        rw [i6.hF] at nLx
        cases nLx
      have ylen := Alls.len aLx
      rw [List.length_map] at ylen
      have yl16 := exts_len (ss := ss) (p := e.1) (here := e.2)
      have dLx : DpAll K H7 ys ((exts ss e.1 e.2).map extD) := by
        have key : ∀ (l : List (Way × Nat)) (ys : List V), Alls (l.map (pExt K)) ys H7 → DpAll K H7 ys (l.map extD) := by
          intro l
          induction l with
          | nil => intro ys h; cases h; exact .nil
          | cons x l ih =>
            rintro ys ⟨y, r, rfl, hy, ht⟩
            exact .cons (ext_D hy) (ih r ht)
        exact key _ _ aLx
      refine ⟨Lx, ys, rfl, hLx, fun j σ' H' => ∃ xs3 ws3 vs3 a6 a7, σ' = [some v, some (.ref F), some (.int (f : Nat)), some (.ref W), some xv, some (.int (e.2 : Nat)), a6, a7, none, none] ∧ RgI K w ss H H' F xs3 ∧ H' W = some (.lst vs3) ∧ DpAll K H' vs3 (ws3.map extD) ∧ H' Lx = some (.lst ys) ∧ DpAll K H' ys ((exts ss e.1 e.2).map extD) ∧
        (∀ f' r, f' < f → RingAt ss f' r → least ss r ∈ xs3.map (·.1)) ∧ (∀ e ∈ ws3, PathAt ss f e) ∧ (∀ (t : Nat) (e : Way × Nat), ws3[t]? = some e → t ≤ 16 * e.1.length) ∧ ws3.length ≤ 16 * e.1.length + j ∧
        (∀ r, RingAt ss f r → least ss r ∈ xs3.map (·.1) ∨ (∃ e ∈ ws3, Pend e r) ∨ ∃ (q : Nat) (x : Way × Nat), j ≤ q ∧ (exts ss e.1 e.2)[q]? = some x ∧ ((x.2 = f ∧ x.1 = r) ∨ (f < x.2 ∧ x.2 ∉ x.1.map (·.2) ∧ Pend x r))) ∧ mu ws3 + (17 - j) * 17 ^ (8 - e.1.length) ≤ m, ?_, ?_, ?_, ?_⟩
      · refine ⟨xs, ws0, vs0, a6, a7, rfl, i6.up e7, e7 _ _ upd_same, DpAll.up e7 dvs6, hLx, dLx, done, fun e' he' => path e' (List.mem_append_left _ he'), fun t e' he' => pos t e' ?_, by omega, fun r hr => ?_, ?_⟩
        · rw [List.getElem?_append_left (List.getElem?_eq_some_iff.mp he').1]
          exact he'
        · rcases comp r hr with h | ⟨e', he', hp⟩
          · exact .inl h
          · rcases List.mem_append.mp he' with h | h
            · exact .inr (.inl ⟨e', h, hp⟩)
            · rw [List.mem_singleton.mp h] at hp
              obtain ⟨t, h1, h2⟩ := hp.next hr
              obtain ⟨q, hq⟩ := List.getElem?_of_mem h1
              exact .inr (.inr ⟨q, _, Nat.zero_le _, hq, h2⟩)
        · have e9 : 9 - e.1.length = (8 - e.1.length) + 1 := by omega
          rw [hmu, e9, Nat.pow_succ] at hm
          omega
      · rintro j σ' H' ⟨_, _, _, _, _, _, _, _, _, h, _⟩
        exact h
      · rintro j x σ' H8 hj ⟨xs3, ws3, vs3, b6, b7, rfl, i8, hW8, dW8, hLx8, dLx8, done8, path8, pos8, wl8, comp8, hm8⟩
        obtain ⟨d, hd1, hd2⟩ := DpAll.get dLx8 hj
        rw [List.getElem?_map] at hd1
        cases ex : (exts ss e.1 e.2)[j]? with
        | none => rw [ex] at hd1; cases hd1
        | some y =>
        rw [ex] at hd1
        cases hd1
        obtain ⟨ax, xw2, rfl, hTx, dxw⟩ := D_ext hd2
        refine ⟨ax, _, rfl, hTx, rfl, _, _, rfl, _, _, rfl, rfl, ?_⟩
        have hymem := List.mem_of_getElem? ex
        obtain ⟨g1, g2, g3, g4, g5, g6⟩ := pe.ext hymem
        have hjl : j < (exts ss e.1 e.2).length := (List.getElem?_eq_some_iff.mp ex).1
        have e17 : 17 - j = (17 - (j + 1)) + 1 := by omega
        have pwy : (pD K (.tuple (y.1.map pairD))).p xw2 H8 := dxw
        -- what stays when y is no longer looked at
        have drop8 : ∀ {xs' : List (Way × Addr)} {ws' : List (Way × Nat)}, (∀ z ∈ xs3.map (·.1), z ∈ xs'.map (·.1)) → (∀ z ∈ ws3, z ∈ ws') → (∀ r, RingAt ss f r → ((y.2 = f ∧ y.1 = r) ∨ (f < y.2 ∧ y.2 ∉ y.1.map (·.2) ∧ Pend y r)) → least ss r ∈ xs'.map (·.1) ∨ ∃ e ∈ ws', Pend e r) →
            (∀ r, RingAt ss f r → least ss r ∈ xs'.map (·.1) ∨ (∃ e ∈ ws', Pend e r) ∨ ∃ (q : Nat) (x : Way × Nat), j + 1 ≤ q ∧ (exts ss e.1 e.2)[q]? = some x ∧ ((x.2 = f ∧ x.1 = r) ∨ (f < x.2 ∧ x.2 ∉ x.1.map (·.2) ∧ Pend x r))) := by
          intro xs' ws' h1 h2 h3 r hr
          rcases comp8 r hr with h | ⟨e', he', hp⟩ | ⟨q, x, hq, hx, hc⟩
          · exact .inl (h1 _ h)
          · exact .inr (.inl ⟨e', h2 _ he', hp⟩)
          · by_cases hqj : q = j
            · subst hqj
              rw [ex] at hx
              cases hx
              rcases h3 r hr hc with h | h
              · exact .inl h
              · exact .inr (.inl h)
            · exact .inr (.inr ⟨q, x, by omega, hx, hc⟩)
        refine q_ifE (b := decide ((y.2 : Int) = (f : Int)) && decide ((1 : Int) < (y.1.length : Nat))) (et_and (pt_test (ep_op (ep_vi rfl) (ep_vi rfl) rp_eqI)) fun _ => pt_test (ep_op (ep_cb (ea_cons (ep_var rfl pwy) ea_nil) cp_lenT |>.imp fun _ _ _ p => by rw [List.length_map] at p; exact p) ep_i rp_I0b)) (fun hb9 H9 e9 => ?_) (fun hb9 H9 e9 => ?_)
        · -- a ring
          rw [Bool.and_eq_true, decide_eq_true_iff, decide_eq_true_iff] at hb9
          have hyf : y.2 = f := by omega
          have hyl : 1 < y.1.length := by omega
          have hring := pe.close hymem hyf hyl
          have i9 := i8.up e9
          have pw9 := PD.up _ i9.ex pw
          refine p_setN (r := least ss y.1) (ep_vv rfl) (ep_call (α := (Nat × List Stl) × Way) ((n, ss), y.1) ⟨g5, by show y.1.length ≤ 100; omega, fun z hz => (g1.touch hok hz).1⟩ (ea_cons (ep_var rfl pw9) (ea_cons (ep_var rfl (show (pD K (wayD y.1)).p xw2 H9 from Dp.up e9 dxw)) ea_nil))) i9.hF i9.nk (by have := i9.le; omega) fun al H10 e10 d10 => ?_
          have hF10 := e10 _ _ i9.hF
          have ef10 : ExF H10 (upd H10 F (ND w F (ndPut xs3 (least ss y.1) al))) := ExF.upd hF10 rfl
          have nk10 : NDKeys K (upd H10 F (ND w F (ndPut xs3 (least ss y.1) al))) (ndPut xs3 (least ss y.1) al) := ndPut_keys ((i9.up e10).nk.fx ef10) (Dp.fx ef10 (noList_way _) d10)
          have lr10 : ∀ z ∈ (ndPut xs3 (least ss y.1) al).map (·.1), LR ss z := fun z hz => by
            rcases ndPut_mem.mp hz with rfl | hz
            · exact ⟨y.1, hring.ring, rfl⟩
            · exact i9.lr z hz
          have ln10 : (ndPut xs3 (least ss y.1) al).length ≤ 201 := by
            have := i9.le
            unfold ndPut
            split
            · omega
            · rw [List.length_append, List.length_singleton]; omega
          have ex10 : Ex H (upd H10 F (ND w F (ndPut xs3 (least ss y.1) al))) := Ex.mut (i9.ex.trans e10) i9.nF
          have sub10 : (ndPut xs3 (least ss y.1) al).length ≤ L.length := by
            have := nodup_len nk10.1 fun z hz => (lmem z).mpr (lr10 z hz)
            rwa [List.length_map] at this
          have nWF : W ≠ F := ne_of hW8 i8.hF (by intro z; cases (show HO.lst vs3 = HO.ext _ from z))
          refine s_when (b := decide (((200 : Int)) < ((ndPut xs3 (least ss y.1) al).length : Nat))) (pt_test (ep_op (ep_lenN upd_same (by omega) (ep_vv rfl)) ep_i rp_I0b)) (fun hb11 H11 e11 => ?_) (fun hb11 H11 e11 => ?_)
          · have h200 := of_decide_eq_true hb11
            refine p_raiseT (W := fun cls d _ H => E cls d H) (n := 200) (ea_cons ep_i ea_nil) fun d H12 e12 hd => ?_
            exact kE (by omega) d H12 ((ex10.trans e11).trans e12) hd
          · have h200 := of_decide_eq_false hb11
            have i11 : RgI K w ss H H11 F (ndPut xs3 (least ss y.1) al) := ⟨ex10.trans e11, i9.nF, e11 _ _ upd_same, nk10.fx (ExF.of e11), lr10, by omega⟩
            refine ⟨_, ws3, vs3, _, _, rfl, i11, ?_, ?_, ?_, ?_, ?_, path8, pos8, by omega, ?_, ?_⟩
            · refine e11 _ _ ?_
              rw [upd_ne nWF]
              exact e10 _ _ (e9 _ _ hW8)
            · exact DpAll.fx ((ef10.trans (ExF.of e11))) (noList_exts _) (DpAll.up (e9.trans e10) dW8)
            · refine e11 _ _ ?_
              rw [upd_ne nLF]
              exact e10 _ _ (e9 _ _ hLx8)
            · exact DpAll.fx ((ef10.trans (ExF.of e11))) (noList_exts _) (DpAll.up (e9.trans e10) dLx8)
            · exact fun f' r hf' hr => ndPut_mem.mpr (.inr (done8 f' r hf' hr))
            · refine drop8 (fun z hz => ndPut_mem.mpr (.inr hz)) (fun z hz => hz) fun r hr hc => ?_
              rcases hc with ⟨_, hc⟩ | ⟨hc, _⟩
              · left
                rw [← hc]
                exact ndPut_mem.mpr (.inl rfl)
              · omega
            · rw [e17, Nat.succ_mul] at hm8
              exact Nat.le_trans (Nat.add_le_add_left (Nat.le_add_right _ _) _) hm8
        · have hno1 : ¬ (y.2 = f ∧ 1 < y.1.length) := by
            rintro ⟨h1, h2⟩
            rw [Bool.and_eq_false_iff, decide_eq_false_iff_not, decide_eq_false_iff_not] at hb9
            omega
          have i9 := i8.up e9
          refine s_when (b := decide ((f : Int) < (y.2 : Int)) && !decide ((y.2 : Int) ∈ ofN (y.1.map (·.2)))) (et_and (pt_test (ep_op (ep_vi rfl) (ep_vi rfl) rp_I0b)) fun _ => pt_test (ep_op (ep_vi rfl) (ep_wares2 (K := K) (r := y.1) (ep_var rfl (show (pD K (.tuple (y.1.map pairD))).p xw2 H9 from Dp.up e9 dxw)) (by omega) (fun _ _ => rfl) (fun _ _ _ => ⟨rfl, trivial⟩)) rp_ninL)) (fun hb11 H11 e11 => ?_) (fun hb11 H11 e11 => ?_)
          · rw [Bool.and_eq_true, decide_eq_true_iff, Bool.not_eq_true', decide_eq_false_iff_not, mem_ofN] at hb11
            have hlt : f < y.2 := by omega
            have hpush := pe.push hymem hlt hb11.2
            have i11 := i9.up e11
            have hW11 := e11 _ _ (e9 _ _ hW8)
            have lv := DpAll.len dW8
            rw [List.length_map] at lv
            refine p_app1 (P := pD K (extD y)) hW11 (ep_vv rfl) (ep_ext (p := y.1) (t := y.2) (ep_var rfl (show (pD K (wayD y.1)).p xw2 H11 from Dp.up (e9.trans e11) dxw)) (ep_vi rfl)) (by omega) fun v12 H12 e12 p12 => ?_
            have hW12 := e12 _ _ hW11
            have hshy := hpush.short hok hf
            refine ⟨xs3, ws3 ++ [y], vs3 ++ [v12], _, _, rfl, (i11.up e12).lst hW12 nWH, upd_same, ?_, ?_, ?_, done8, ?_, ?_, ?_, ?_, ?_⟩
            · refine DpAll.lst hW12 (noList_exts _) ?_
              rw [List.map_append]
              exact DpAll.snoc (DpAll.up ((e9.trans e11).trans e12) dW8) p12
            · rw [upd_ne nLW]
              exact e12 _ _ (e11 _ _ (e9 _ _ hLx8))
            · exact DpAll.lst hW12 (noList_exts _) (DpAll.up ((e9.trans e11).trans e12) dLx8)
            · intro e' he'
              rcases List.mem_append.mp he' with h | h
              · exact path8 e' h
              · rw [List.mem_singleton.mp h]; exact hpush
            · intro t e' he'
              by_cases ht : t < ws3.length
              · rw [List.getElem?_append_left ht] at he'
                exact pos8 t e' he'
              · have h1 := (List.getElem?_eq_some_iff.mp he').1
                rw [List.length_append, List.length_singleton] at h1
                have h2 : t = ws3.length := by omega
                subst h2
                rw [List.getElem?_append_right (Nat.le_refl _), Nat.sub_self] at he'
                cases he'
                omega
            · rw [List.length_append, List.length_singleton]; omega
            · refine drop8 (fun z hz => hz) (fun z hz => List.mem_append_left _ hz) fun r hr hc => ?_
              rcases hc with ⟨hc, _⟩ | ⟨_, _, hc⟩
              · omega
              · exact .inr ⟨y, by simp, hc⟩
            · rw [mu_snoc]
              rw [e17, Nat.succ_mul] at hm8
              have e8 : 9 - y.1.length = 8 - e.1.length := by omega
              rw [e8]
              omega
          · refine ⟨xs3, ws3, vs3, _, _, rfl, i9.up e11, e11 _ _ (e9 _ _ hW8), DpAll.up (e9.trans e11) dW8, e11 _ _ (e9 _ _ hLx8), DpAll.up (e9.trans e11) dLx8, done8, path8, pos8, by omega, ?_, ?_⟩
            · refine drop8 (fun z hz => hz) (fun z hz => hz) fun r hr hc => ?_
              exfalso
              rcases hc with ⟨h1, h2⟩ | ⟨h1, h2, _⟩
              · refine hno1 ⟨h1, ?_⟩
                rw [h2]
                exact hr.2.1
              · rw [Bool.and_eq_false_iff, decide_eq_false_iff_not] at hb11
                rcases hb11 with hb | hb
                · omega
                · rw [Bool.not_eq_false', decide_eq_true_iff, mem_ofN] at hb
                  exact h2 hb
            · rw [e17, Nat.succ_mul] at hm8
              exact Nat.le_trans (Nat.add_le_add_left (Nat.le_add_right _ _) _) hm8
      · rintro σ' H8 ⟨xs3, ws3, vs3, b6, b7, rfl, i8, hW8, dW8, hLx8, dLx8, done8, path8, pos8, wl8, comp8, hm8⟩
        rw [ylen] at comp8 hm8
        refine ⟨mu ws3, ?_, xs3, ws3, vs3, _, _, b6, b7, rfl, i8, hW8, dW8, done8, path8, pos8, fun r hr => ?_, Nat.le_refl _⟩
        · have h1 : 1 ≤ 17 - (exts ss e.1 e.2).length := by omega
          have h2 : 0 < (17 - (exts ss e.1 e.2).length) * 17 ^ (8 - e.1.length) := Nat.mul_pos h1 (Nat.pow_pos (by decide))
          omega
        · rcases comp8 r hr with h | h | ⟨q, x, hq, hx, _⟩
          · exact .inl h
          · exact .inr h
          · have := (List.getElem?_eq_some_iff.mp hx).1
            omega
    · have hne : ws = [] := by
        cases ws with
        | nil => rfl
        | cons => cases hb
      subst hne
      refine ⟨xs, _, _, a4, a5, a6, a7, rfl, i4.up e5, fun f' r hf' hr => ?_⟩
      by_cases hff : f' < f
      · exact done f' r hff hr
      · have : f' = f := by omega
        subst this
        rcases comp r hr with h | ⟨e, he, _⟩
        · exact h
        · cases he
  · rintro σ' H2 ⟨xs, a2, a3, a4, a5, a6, a7, rfl, i2, done⟩
    have hkL : ∀ x, x ∈ xs.map (·.1) ↔ x ∈ L := fun x => by
      rw [lmem]
      constructor
      · exact i2.lr x
      · rintro ⟨r, hr, rfl⟩
        obtain ⟨f, r', hfn, hr', hl⟩ := ring_first hok hr
        rw [← hl]
        exact done f r' hfn hr'
    have hlen : xs.length = L.length := by
      have h1 := nodup_len i2.nk.1 fun a ha => (hkL a).mp ha
      have h2 := nodup_len lnd fun a ha => (hkL a).mpr ha
      rw [List.length_map] at h1 h2
      omega
    have hle := i2.le
    refine p_ret (ep_sortedN i2.hF (by omega) i2.nk (fun b hb => ?_) (sorted_eq i2.nk.1 lnd lsort hkL) (ep_vv rfl)) fun v5 H5 e5 p5 => ?_
    · obtain ⟨r, hr, rfl⟩ := i2.lr b hb
      exact least_ne hok.nes hr
    · obtain ⟨a, ys, rfl, na, ha, da⟩ := p5
      exact kQ (by omega) a ys H5 (i2.ex.trans e5) (fresh_back i2.ex na) ha da
end
end K43
set_option Elab.async false
set_option linter.all false
set_option maxRecDepth 100000
set_option maxHeartbeats 4000000
/-! k43, part FF: uneven_rings, _law_many. -/
namespace K43
open PySem PySem.Spec L2 Evl C8
/-- a new list of these ways -/
def pWL (K : PySem.W.Frag) (H0 : Hp) (L : List Way) : PD := ⟨fun v H => ∃ a xs, v = .ref a ∧ H0 a = none ∧ H a = some (.lst xs) ∧ DpAll K H xs (L.map wayD), by
  rintro v H H' e ⟨a, xs, h1, h2, h3, h4⟩
  exact ⟨a, xs, h1, h2, e _ _ h3, DpAll.up e h4⟩⟩
/-- what is known of the list of a web's rings -/
structure RingsOf (ss : List Stl) (L : List Way) : Prop where
  sort : L.Pairwise (fun a b => wle a b = true)
  nd : L.Nodup
  mem : ∀ x, x ∈ L ↔ LR ss x
def strD (x : Str) (i : Int) : PyData := .tuple [.str x, .int i]
section
variable {P : Program} {w : World} {K : PySem.W.Frag} {mg : Str → Option Value} {base : Heap} {cE cW cT : Addr} {σ : L2.St} {H : Hp} {te tx : TE}
theorem pWL_D {H0 : Hp} {L : List Way} {v : V} {H' : Hp} (h : (pWL K H0 L).p v H') : (pD K (.list (L.map wayD))).p v H' := by
  obtain ⟨a, xs, rfl, _, h1, h2⟩ := h
  exact .lst (SqL.of h1) h2
theorem pWL_L {H0 : Hp} {L : List Way} {v : V} {H' : Hp} (h : (pWL K H0 L).p v H') : (pL K (L.map fun r => pD K (wayD r))).p v H' := by
  have := pD_pL (pWL_D h)
  rw [List.map_map] at this
  exact this
theorem ep_ringsS {n : Nat} {ss : List Stl} {L : List Way} {Ef : L2.St → XK} {ta : TA} (hok : WOk n ss) (hL : RingsOf ss L) (hle : L.length ≤ 200) (ha : EvPA ta σ H [pW K cW n ss]) : EvP (tCallS (spRings K cW cT) Ef ta) σ H (pWL K H L) := fun H1 e Q q =>
  ha H1 e _ fun vs H2 e2 ps => by
    obtain ⟨v, r, rfl, p, er⟩ := ps
    cases er
    exact ⟨n, ss, v, L, hok, rfl, p, hL.sort, hL.nd, hL.mem, fun _ a xs H' e3 h1 h2 h3 => q _ _ (e2.trans e3) ⟨a, xs, rfl, fresh_back (e.trans e2) h1, h2, h3⟩, fun h => absurd hle (by omega)⟩
theorem q_ringsX {n : Nat} {ss : List Stl} {L : List Way} {Ef : L2.St → XK} {ta : TA} {Q : VK} (hok : WOk n ss) (hL : RingsOf ss L) (hgt : 200 < L.length) (ha : EvPA ta σ H [pW K cW n ss]) (hE : ∀ d H', Ex H H' → H' d = some (.xd [(("limit" : Str), .int 200)]) → Ef σ (.ref cT) (some d) H') : tCallS (spRings K cW cT) Ef ta σ H Q :=
  ha H (Ex.refl H) _ fun vs H2 e2 ps => by
    obtain ⟨v, r, rfl, p, er⟩ := ps
    cases er
    exact ⟨n, ss, v, L, hok, rfl, p, hL.sort, hL.nd, hL.mem, fun h => absurd hgt (by omega), fun _ d H' e3 hd => hE d H' (e2.trans e3) hd⟩
def spUnevens (K : PySem.W.Frag) (cW cT : Addr) : Sp := fun vs H Q E => ∃ (n : Nat) (ss : List Stl) (v : V) (L : List Way), WOk n ss ∧ vs = [v] ∧ (pW K cW n ss).p v H ∧ RingsOf ss L ∧
  (L.length ≤ 200 → ∀ v' H', Ex H H' → (pD K (.list ((L.filter (uneven ss)).map wayD))).p v' H' → Q v' H') ∧
  (200 < L.length → ∀ d H', Ex H H' → H' d = some (.xd [(("limit" : Str), .int 200)]) → E (.ref cT) (some d) H')
theorem ok40 (T : Txt K mg cE cW) (TT : TxtT K mg cT) : CalX P w K mg base 7 "uneven_rings" (spUnevens K cW cT) := by
  have sc0 : FnScope ["web", "ring"] ["web"] (defScope (top 40)) := ⟨rfl, rfl, rfl, by decide +kernel, rfl, by decide +kernel, by decide +kernel⟩
  refine T.d40.calX sc0 (fun vs H Q E h => by obtain ⟨n, ss, v, L, _, rfl, _⟩ := h; rfl) fun cdv f A outer s H vs Q E hr h => ?_
  obtain ⟨n, ss, v, L, hok, rfl, pw, hL, kQ, kE⟩ := h
  obtain ⟨fR, fdR, psR, FR, mR, kR, bR⟩ := (ok39 (P := P) (w := w) (base := base) T TT).ex
  refine ⟨_, pss_one (ps_ret (pe_lc (own := [("ring", 1)]) (g := gName 1) (by rfl) sc0.nd (pi_list (pe_callS FR (hr.mono (by decide)) rfl mR kR bR (fun σ => passAt (takes_of rfl rfl rfl rfl) σ) (pa_cons (pv 0) pa_nil))) (blkOk_by (N := ["web", "ring"]) (sc := defScope (top 40)) (by decide +kernel)) (fun _ _ _ _ _ => pg_name (i := 1) sc0.nd rfl (.inl rfl)) (fun _ _ _ _ _ => pts_one (pt_val (pe_c (ok33 T) hr (by decide) rfl (pa_cons (pv 0) (pa_cons (pv 1) (pa_nil)))))) (fun _ _ _ _ _ => pv 1))), ?_⟩
  by_cases hle : L.length ≤ 200
  · refine p_ret (P := pL K ((L.filter (uneven ss)).map fun r => pD K (wayD r))) (ep_lcL (src := fun r => pD K (wayD r)) ((ep_ringsS hok hL hle (ea_cons (ep_var rfl pw) ea_nil)).imp fun _ _ _ p => pWL_L p) (by omega) (fun _ => rfl) (fun b hb x H1 e1 px => ?_) (fun b hb _ x H1 e1 px => ep_var rfl px) (fun b hb _ => st_D (noList_way _))) fun v2 H2 e2 p2 => ?_
    · obtain ⟨r, hr, rfl⟩ := (hL.mem b).mp hb
      exact pt_B (ep_call (α := (Nat × List Stl) × Way) ((n, ss), least ss r) ⟨hok, least_ring hok.nes hr⟩ (ea_cons (ep_var rfl (PD.up _ e1 pw)) (ea_cons (ep_var rfl px) ea_nil)))
    · refine kQ hle v2 H2 e2 ?_
      have e : ((L.filter (uneven ss)).map fun r => pD K (wayD r)) = ((L.filter (uneven ss)).map wayD).map (pD K) := by rw [List.map_map]; rfl
      rw [e] at p2
      exact pL_pD p2
  · exact q_ringsX (cT := cT) (n := n) (ss := ss) (L := L) hok hL (by omega) (ea_cons (ep_var rfl pw) ea_nil) fun d H' e hd => kE (by omega) d H' e hd
theorem ep_unevensS {n : Nat} {ss : List Stl} {L : List Way} {Ef : L2.St → XK} {ta : TA} (hok : WOk n ss) (hL : RingsOf ss L) (hle : L.length ≤ 200) (ha : EvPA ta σ H [pW K cW n ss]) : EvP (tCallS (spUnevens K cW cT) Ef ta) σ H (pD K (.list ((L.filter (uneven ss)).map wayD))) := fun H1 e Q q =>
  ha H1 e _ fun vs H2 e2 ps => by
    obtain ⟨v, r, rfl, p, er⟩ := ps
    cases er
    exact ⟨n, ss, v, L, hok, rfl, p, hL, fun _ v' H' e3 h => q _ _ (e2.trans e3) h, fun h => absurd hle (by omega)⟩
theorem q_unevensX {n : Nat} {ss : List Stl} {L : List Way} {Ef : L2.St → XK} {ta : TA} {Q : VK} (hok : WOk n ss) (hL : RingsOf ss L) (hgt : 200 < L.length) (ha : EvPA ta σ H [pW K cW n ss]) (hE : ∀ d H', Ex H H' → H' d = some (.xd [(("limit" : Str), .int 200)]) → Ef σ (.ref cT) (some d) H') : tCallS (spUnevens K cW cT) Ef ta σ H Q :=
  ha H (Ex.refl H) _ fun vs H2 e2 ps => by
    obtain ⟨v, r, rfl, p, er⟩ := ps
    cases er
    exact ⟨n, ss, v, L, hok, rfl, p, hL, fun h => absurd hgt (by omega), fun _ d H' e3 hd => hE d H' (e2.trans e3) hd⟩
/-! ### _law_many -/
def lenR (K : PySem.W.Frag) : List V → Hp → VK → Prop := fun xs H Q => ∃ p ys, xs = [.ref p] ∧ (SqL K H p ys ∨ SqT K H p ys) ∧ Q (.int ys.length) H
def tToldR (K : PySem.W.Frag) (sp : Sp) (W : WX) : TE := tTup (tCons (tC (.str "told")) (tCons (tCB (lenR K) (tCons (tCallS sp (WE W) (tCons (tVar 1) tNil)) tNil)) tNil))
def tManyB (K : PySem.W.Frag) (cW cT : Addr) (W : WX) : TS := tIfS (tTest (tOp rEq (tVar 0) (tC (.int 0)))) (tAsg (tToldR K (spRings K cW cT) W) (gName 2)) (tAsg (tToldR K (spUnevens K cW cT) W) (gName 2))
def tManyS (cT : Addr) (a : Addr) (cls : Value) (d : Option Addr) : TS := tAsg (tTup (tCons (tC (.str "many")) (tCons (tXf a cls d cT "limit" (tVar 3)) tNil))) (gName 2)
theorem ep_strD {ta tb : TE} {x : Str} {i : Int} (h1 : EvP ta σ H (pV (.str x))) (h2 : EvP tb σ H (pI i)) : EvP (tTup (tCons ta (tCons tb tNil))) σ H (pD K (strD x i)) :=
  (ep_tup (K := K) (ea_cons h1 (ea_cons h2 ea_nil)) (by simp)).imp fun v H' _ p => by
    obtain ⟨a, xs, rfl, h, x, _, rfl, px, y, _, rfl, py, e⟩ := p
    cases e
    cases px
    cases py
    exact .tup h (.cons (.str _) (.cons (.int _) .nil))
theorem ep_lenR {ds : List PyData} (h : EvP te σ H (pD K (.list ds))) : EvP (tCB (lenR K) (tCons te tNil)) σ H (pI (ds.length : Nat)) := ep_cb (ea_cons h ea_nil) cp_lenL
structure ManyA where
  n : Nat
  ss : List Stl
  L : List Way
  which : Int
def manyD (a : ManyA) : PyData := if a.L.length ≤ 200 then (if a.which = 0 then strD "told" (a.L.length : Nat) else strD "told" ((a.L.filter (uneven a.ss)).length : Nat)) else strD "many" 200
def spMany (K : PySem.W.Frag) (cW : Addr) : Sp := spF (fun (a : ManyA) => [pI a.which, pW K cW a.n a.ss]) (fun a => pD K (manyD a)) (fun a => WOk a.n a.ss ∧ RingsOf a.ss a.L)
theorem ok61 (T : Txt K mg cE cW) (TT : TxtT K mg cT) : Cal P w K mg base 8 "_law_many" (spMany K cW) [] := by
  have sc0 : FnScope ["_law_which", "_law_web", "_law_told", "e"] ["_law_which", "_law_web"] (defScope (top 61)) := ⟨rfl, rfl, rfl, by decide +kernel, rfl, by decide +kernel, by decide +kernel⟩
  refine T.d61.cal sc0 (spF_len fun _ => rfl) fun cdv f A outer s H vs Q E hr h => ?_
  obtain ⟨⟨n, ss, L, which⟩, ⟨hok, hL⟩, ⟨v0, _, rfl, p0, v, _, rfl, pw, er⟩, k⟩ := h
  cases er
  cases p0
  replace hok : WOk n ss := hok
  replace hL : RingsOf ss L := hL
  replace pw : (pW K cW n ss).p v H := pw
  replace k : ∀ v H', Ex H H' → (pD K (manyD ⟨n, ss, L, which⟩)).p v H' → Q v H' := k
  obtain ⟨fR, fdR, psR, FR, mR, kR, bR⟩ := (ok39 (P := P) (w := w) (base := base) T TT).ex
  obtain ⟨fU, fdU, psU, FU, mU, kU, bU⟩ := (ok40 (P := P) (w := w) (base := base) T TT).ex
  refine ⟨_, pss_cons (ps_set (i := 2) sc0.nd rfl (.inl rfl) pe_non)
    (pss_cons (ps_try_as (i := 3) (tb := tManyB K cW cT) (ts := tManyS cT) (Wout := fun _ _ _ _ => False) rfl rfl sc0.nd rfl rfl ⟨rfl, by decide, Or.inl TT.mgT⟩ takes0
      (fun W pn xe tk _ => pss_one (ps_if (pt_cmpR op_eq (pv 0) pe_int (nomark _))
        (pss_one (ps_set (i := 2) sc0.nd rfl (.inl rfl) (pe_tup (pa_cons pe_str (pa_cons (pe_callB call_len_seq (by rfl) T.b_len (by decide +kernel) (pa_cons (pe_callS FR (hr.mono (by decide)) rfl mR kR bR (fun σ => passAt tk σ) (pa_cons (pv 1) pa_nil)) pa_nil)) pa_nil)))))
        (pss_one (ps_set (i := 2) sc0.nd rfl (.inl rfl) (pe_tup (pa_cons pe_str (pa_cons (pe_callB call_len_seq (by rfl) T.b_len (by decide +kernel) (pa_cons (pe_callS FU (hr.mono (by decide)) rfl mU kU bU (fun σ => passAt tk σ) (pa_cons (pv 1) pa_nil)) pa_nil)) pa_nil)))))))
      (fun a oe cls d pn hz hf => pss_one (ps_set (i := 2) sc0.nd rfl (.inl rfl) (pe_tup (pa_cons pe_str (pa_cons (pe_xf TT.xf TT.nLim hz hf (pv 3)) pa_nil))))))
    (pss_one (ps_ret (pv 2)))), ?_⟩
  refine p_asg ep_c fun v2 H1 e1 p2 => ?_
  cases p2
  have pw1 := PD.up _ e1 pw
  by_cases hle : L.length ≤ 200
  · refine q_ifE (t := tTest (tOp rEq (tVar 0) (tC (.int 0)))) (pt_test (ep_op (ep_vi rfl) ep_i rp_eqI)) (fun hb H2 e2 => ?_) (fun hb H2 e2 => ?_)
    · have hw : which = 0 := of_decide_eq_true hb
      refine p_asg1 (P := pD K (manyD ⟨n, ss, L, which⟩)) ?_ fun v3 H3 e3 p3 => p_ret (P := pD K (manyD ⟨n, ss, L, which⟩)) (σ := [some (.int which), some v, some v3, none]) (te := tVar 2) (ep_var rfl p3) fun v4 H4 e4 p4 => k _ _ (((e1.trans e2).trans e3).trans e4) p4
      have : manyD ⟨n, ss, L, which⟩ = strD "told" ((L.map wayD).length : Nat) := by
        unfold manyD
        rw [if_pos hle, if_pos hw, List.length_map]
      rw [this]
      exact ep_strD ep_c (ep_lenR ((ep_ringsS (K := K) hok hL hle (ea_cons (ep_var rfl (PD.up _ e2 pw1)) ea_nil)).imp fun _ _ _ p => pWL_D p))
    · have hw : ¬ which = 0 := of_decide_eq_false hb
      refine p_asg1 (P := pD K (manyD ⟨n, ss, L, which⟩)) ?_ fun v3 H3 e3 p3 => p_ret (P := pD K (manyD ⟨n, ss, L, which⟩)) (σ := [some (.int which), some v, some v3, none]) (te := tVar 2) (ep_var rfl p3) fun v4 H4 e4 p4 => k _ _ (((e1.trans e2).trans e3).trans e4) p4
      have : manyD ⟨n, ss, L, which⟩ = strD "told" (((L.filter (uneven ss)).map wayD).length : Nat) := by
        unfold manyD
        rw [if_pos hle, if_neg hw, List.length_map]
      rw [this]
      exact ep_strD ep_c (ep_lenR (ep_unevensS (K := K) hok hL hle (ea_cons (ep_var rfl (PD.up _ e2 pw1)) ea_nil)))
  · have hmd : manyD ⟨n, ss, L, which⟩ = strD "many" 200 := by
      unfold manyD
      rw [if_neg hle]
    have caught : ∀ {D : Ends} {H3 : Hp} {d : Addr}, (∀ v' H', Ex H3 H' → (pD K (strD "many" 200)).p v' H' → D.nx [some (.int which), some v, some v', none] H') → H3 d = some (.xd [(("limit" : Str), .int 200)]) → wAs K (.ref cT) 3 (tManyS cT) (fun _ _ _ _ => False) D (.ref cT) (some d) [some (.int which), some v, some .non, none] H3 := by
      intro D H3 d kk hd
      refine ⟨true, TT.exm, fun _ a ha => ?_, fun z => nomatch z⟩
      refine p_asg1 (P := pD K (strD "many" 200)) (ep_strD ep_c (fun H4 e4 Q4 q4 => ⟨_, rfl, rfl, rfl, d, _, _, rfl, e4 _ _ hd, rfl, q4 _ _ (Ex.refl _) rfl⟩)) fun v4 H4 e4 p4 => kk v4 H4 e4 p4
    have fin : ∀ v' H', Ex H1 H' → (pD K (strD "many" 200)).p v' H' → Q v' H' := fun v' H' e' p' => k _ _ (e1.trans e') (by rw [hmd]; exact p')
    refine q_ifE (t := tTest (tOp rEq (tVar 0) (tC (.int 0)))) (pt_test (ep_op (ep_vi rfl) ep_i rp_eqI)) (fun hb H2 e2 => ?_) (fun hb H2 e2 => ?_)
    · refine q_ringsX (K := K) (cT := cT) (n := n) (ss := ss) (L := L) hok hL (by omega) (ea_cons (ep_var rfl (PD.up _ e2 pw1)) ea_nil) fun d H3 e3 hd => caught (fun v' H' e' p' => ?_) hd
      exact p_ret (P := pD K (strD "many" 200)) (σ := [some (.int which), some v, some v', none]) (te := tVar 2) (ep_var rfl p') fun v4 H4 e4 p4 => fin _ _ (((e2.trans e3).trans e').trans e4) p4
    · refine q_unevensX (K := K) (cT := cT) (n := n) (ss := ss) (L := L) hok hL (by omega) (ea_cons (ep_var rfl (PD.up _ e2 pw1)) ea_nil) fun d H3 e3 hd => caught (fun v' H' e' p' => ?_) hd
      exact p_ret (P := pD K (strD "many" 200)) (σ := [some (.int which), some v, some v', none]) (te := tVar 2) (ep_var rfl p') fun v4 H4 e4 p4 => fin _ _ (((e2.trans e3).trans e').trans e4) p4
end
end K43
set_option Elab.async false
set_option linter.all false
set_option maxRecDepth 100000
set_option maxHeartbeats 4000000
/-! k43, part FG: the law's hand and its draws. -/
namespace K43
open PySem PySem.Spec L2 Evl C8

/-! ### the hand as a thing of which only the shape is told -/
def hdP (c h : Addr) (x : Heap) : Prop := ∃ (p q r s : Int) (t1 t2 t3 t4 : Tok) (n : Nat), 0 ≤ p ∧ x.get? h = some { cls := .type "list", data := .seq #[.ref c, .int p t1, .int q t2, .int r t3, .int s t4] n }
def HD (c h : Addr) : HO := .ext (hdP c h)
def hdL (c : Addr) (p q r s : Int) : HO := .lst [.ref c, .int p, .int q, .int r, .int s]
theorem hd_ok {P : Program} {w : World} {H : Hp} {x : Heap} {c h : Addr} (k : hdP c h x) : ObjOk P w H x h (HD c h) := by
  obtain ⟨p, q, r, s, t1, t2, t3, t4, n, hp, e⟩ := id k
  refine ⟨k, ⟨_, e⟩, fun h1 h2 z y => ?_⟩
  obtain ⟨p, q, r, s, t1, t2, t3, t4, n, hp, e⟩ := z
  exact ⟨p, q, r, s, t1, t2, t3, t4, n, hp, y _ e⟩
/-- the list at h is such a hand; it may be closed -/
def CLo (h c : Addr) (H : Hp) (G : Hp → Prop) : Prop := ∃ p q r s : Int, 0 ≤ p ∧ H h = some (hdL c p q r s) ∧ G (upd H h (HD c h))
def closeD (D : Ends) (h c : Addr) : Ends := ⟨fun σ' H' => CLo h c H' (D.nx σ'), fun v H' => CLo h c H' (D.rt v), fun σ' H' => CLo h c H' (D.bk σ'), fun σ' H' => CLo h c H' (D.ct σ')⟩
/-- a suite that runs with the hand open -/
def tOpenH (t : TS) : TS := fun D σ H => ∃ h c, H h = some (HD c h) ∧ ∀ p q r s : Int, 0 ≤ p → t (closeD D h c) σ (upd H h (hdL c p q r s))
/-- a suite behind which a list is closed to a hand -/
def tShutH (t : TS) : TS := fun D σ H => t ⟨fun σ' H' => ∃ h c, CLo h c H' (D.nx σ'), fun v H' => ∃ h c, CLo h c H' (D.rt v), fun σ' H' => ∃ h c, CLo h c H' (D.bk σ'), fun σ' H' => ∃ h c, CLo h c H' (D.ct σ')⟩ σ H
section
variable {X : Cx} {pins : List (Addr × Obj)} {σ : L2.St} {H : Hp} {s : Shared} {h c : Addr}
theorem inv_open (I : Inv X pins σ H s) (e : H h = some (HD c h)) : ∃ p q r w : Int, 0 ≤ p ∧ Inv X pins σ (upd H h (hdL c p q r w)) s := by
  obtain ⟨p, q, r, w, t1, t2, t3, t4, n, hp, ho⟩ := (I.hok h _ e).1
  refine ⟨p, q, r, w, hp, I.write (h' := s.heap) (t' := s.toks) (x := h) (e := h) (o := hdL c p q r w) (by rw [e]; trivial) (.inl rfl) (fun b ob hb z => z) ⟨_, ho⟩ ?_⟩
  exact ⟨sz_of (by show 5 ≤ 100000; decide), [.ref c, .int p t1, .int q t2, .int r t3, .int w t4], n, .cons rfl (.cons ⟨_, rfl⟩ (.cons ⟨_, rfl⟩ (.cons ⟨_, rfl⟩ (.cons ⟨_, rfl⟩ .nil)))), ho⟩
theorem inv_shut {p q r w : Int} (I : Inv X pins σ H s) (hp : 0 ≤ p) (e : H h = some (hdL c p q r w)) : Inv X pins σ (upd H h (HD c h)) s := by
  obtain ⟨_, its, n, rv, ho⟩ := I.hok h _ e
  have hd : hdP c h s.heap := by
    cases rv with | cons r0 rv => cases rv with | cons r1 rv => cases rv with | cons r2 rv => cases rv with | cons r3 rv => cases rv with | cons r4 rv =>
    cases rv
    cases r0
    obtain ⟨t1, rfl⟩ := r1
    obtain ⟨t2, rfl⟩ := r2
    obtain ⟨t3, rfl⟩ := r3
    obtain ⟨t4, rfl⟩ := r4
    exact ⟨p, q, r, w, t1, t2, t3, t4, n, hp, ho⟩
  exact I.write (h' := s.heap) (t' := s.toks) (x := h) (e := h) (o := HD c h) (by rw [e]; trivial) (.inl rfl) (fun b ob hb z => z) ⟨_, ho⟩ (hd_ok hd)
theorem pss_open {sts : List Stmt} {t : TS} (hb : PSs X sts t) : PSs X sts (tOpenH t) := by
  refine ⟨fun pins s σ H D I hw => ?_⟩
  obtain ⟨h, c, e, hw⟩ := hw
  obtain ⟨p, q, r, w, hp, I1⟩ := inv_open I e
  refine thn (hb.run pins s σ _ _ I1 (hw p q r w hp)) fun f s1 q => ?_
  cases f with
  | next => obtain ⟨σ', H', I2, p, q, r, w, hp, e, q⟩ := q; exact ⟨σ', _, inv_shut I2 hp e, q⟩
  | brk => obtain ⟨σ', H', I2, p, q, r, w, hp, e, q⟩ := q; exact ⟨σ', _, inv_shut I2 hp e, q⟩
  | cont => obtain ⟨σ', H', I2, p, q, r, w, hp, e, q⟩ := q; exact ⟨σ', _, inv_shut I2 hp e, q⟩
  | ret v => obtain ⟨x, σ', H', I2, rx, p, q, r, w, hp, e, q⟩ := q; exact ⟨x, σ', _, inv_shut I2 hp e, rx, q⟩
theorem pss_shut {sts : List Stmt} {t : TS} (hb : PSs X sts t) : PSs X sts (tShutH t) := by
  refine ⟨fun pins s σ H D I hw => ?_⟩
  refine thn (hb.run pins s σ _ _ I hw) fun f s1 q => ?_
  cases f with
  | next => obtain ⟨σ', H', I2, h, c, p, q, r, w, hp, e, q⟩ := q; exact ⟨σ', _, inv_shut I2 hp e, q⟩
  | brk => obtain ⟨σ', H', I2, h, c, p, q, r, w, hp, e, q⟩ := q; exact ⟨σ', _, inv_shut I2 hp e, q⟩
  | cont => obtain ⟨σ', H', I2, h, c, p, q, r, w, hp, e, q⟩ := q; exact ⟨σ', _, inv_shut I2 hp e, q⟩
  | ret v => obtain ⟨x, σ', H', I2, rx, h, c, p, q, r, w, hp, e, q⟩ := q; exact ⟨x, σ', _, inv_shut I2 hp e, rx, q⟩
end
/-- a hand -/
def pHand (cs : List Int) : PD := ⟨fun v H => ∃ h c, v = .ref h ∧ H h = some (HD c h) ∧ H c = some (.lst (cs.map V.int)), fun e ⟨h, c, h1, h2, h3⟩ => ⟨h, c, h1, e _ _ h2, e _ _ h3⟩⟩
/-- some number below m -/
def pDr (m : Nat) : PD := ⟨fun v _ => ∃ k : Nat, k < m ∧ v = .int k, fun _ h => h⟩
section
variable {P : Program} {w : World} {K : PySem.W.Frag} {mg : Str → Option Value} {base : Heap} {cE cW cT : Addr} {σ : L2.St} {H : Hp} {te tx tl : TE}
theorem cp_int {i : Int} : CP (fun xs H Q => (∃ i, xs = [.int i] ∧ Q (.int i) H) ∨ ∃ k, xs = [.bl k] ∧ Q (.int (if k then 1 else 0)) H) [pI i] H (pI i) := fun vs H1 _ ps Q q => by
  obtain ⟨v, r, rfl, p, e⟩ := ps
  cases e
  cases p
  exact .inl ⟨i, rfl, q _ H1 (Ex.refl H1) rfl⟩
theorem cp_intB {b : Bool} : CP (fun xs H Q => (∃ i, xs = [.int i] ∧ Q (.int i) H) ∨ ∃ k, xs = [.bl k] ∧ Q (.int (if k then 1 else 0)) H) [pB b] H (pI (if b then 1 else 0)) := fun vs H1 _ ps Q q => by
  obtain ⟨v, r, rfl, p, e⟩ := ps
  cases e
  cases p
  exact .inr ⟨b, rfl, q _ H1 (Ex.refl H1) rfl⟩
def spHand (K : PySem.W.Frag) : Sp := fun vs H Q _ => ∃ (a : Addr) (ns : List Int), vs = [.ref a] ∧ SqL K H a (ns.map V.int) ∧ ns.length ≤ 63 ∧ ∀ v H' cs, Ex H H' → (∀ i ∈ cs, 0 ≤ i) → cs.length ≤ 63 → (pHand cs).p v H' → Q v H'
theorem ok42 (T : Txt K mg cE cW) : Cal P w K mg base 1 "_law_hand" (spHand K) [] := by
  have sc0 : FnScope ["_law_script", "_law_cells", "_law_cell"] ["_law_script"] (defScope (top 42)) := ⟨rfl, rfl, rfl, by decide +kernel, rfl, by decide +kernel, by decide +kernel⟩
  refine T.d42.cal sc0 (fun vs H Q E h => by obtain ⟨a, ns, rfl, _⟩ := h; rfl) fun cdv f A outer s H vs Q E hr h => ?_
  obtain ⟨a, ns, rfl, ha, hl, k⟩ := h
  refine ⟨_, pss_shut (pss_cons (ps_setLc (i := 1) (own := [("_law_cell", 2)]) (g := gName 2) (tt := tYes) (by rfl) sc0.nd rfl rfl (sw_true rfl rfl rfl (by decide +kernel)) (pi_list (pe_slice sl_list (pv 0) po_none (po_some (pe_int)))) (blkOk_by (N := ["_law_script", "_law_cells", "_law_cell"]) (sc := defScope (top 42)) (by decide +kernel)) (fun _ _ _ _ _ => pg_name (i := 2) sc0.nd rfl (.inl rfl)) (fun _ _ _ _ _ => pts_nil) (fun _ _ _ _ _ => pe_callB (call_abs) (by rfl) T.b_abs (by decide +kernel) (pa_cons (pe_callTy call_int1 (by rfl) T.b_int (by decide +kernel) (pa_cons (pv 2) (pa_nil))) (pa_nil))))
    (pss_one (ps_ret (pe_lst (pa_cons (pv 1) (pa_cons (pe_int) (pa_cons (pe_int) (pa_cons (pe_op op_add (pe_int) (pe_callB (call_len_seq) (by rfl) T.b_len (by decide +kernel) (pa_cons (pv 1) (pa_nil)))) (pa_cons (pe_int) (pa_nil)))))))))), ?_⟩
  refine p_asg (P := pLN H (ns.map fun i => pI (i.natAbs : Nat))) ?_ fun v1 H1 e1 p1 => ?_
  · refine ep_lcLN (K := K) (src := pI) (res := fun i => pI (i.natAbs : Nat)) (fun H1 e Q q => ⟨_, rfl, 63, rfl, a, _, rfl, ex_l e ha, fun p hp => ?_⟩) (by omega) (fun _ => rfl) (fun b hb x H1 e1 px => ep_cb (ea_cons (ep_cb (ea_cons (ep_var rfl px) ea_nil) cp_int) ea_nil) cp_abs) (fun b hb => st_I)
    refine q _ _ (Ex.new hp) ⟨p, _, rfl, SqL.of upd_same, ?_⟩
    have ec : cutV (ns.map V.int) none (some 63) = ns.map V.int := by
      unfold cutV
      rw [HT.sIx_none, show (63 : Int) = ((63 : Nat) : Int) from rfl, HT.sIx_nat, List.drop_zero, List.length_map, Nat.sub_zero]
      refine List.take_of_length_le ?_
      rw [List.length_map]
      omega
    rw [ec]
    have key : ∀ l : List Int, Alls (l.map pI) (l.map V.int) (upd H1 p (.lst (ns.map V.int))) := by
      intro l
      induction l with
      | nil => rfl
      | cons x l ih => exact ⟨_, _, rfl, rfl, ih⟩
    exact key ns
  · obtain ⟨c, xs, rfl, nc, hc, ac⟩ := p1
    have ex : xs = (ns.map fun i => (i.natAbs : Int)).map V.int := by
      have e : (ns.map fun i => pI (i.natAbs : Nat)) = (ns.map fun i => ((i.natAbs : Nat) : Int)).map pI := by rw [List.map_map]; rfl
      rw [e] at ac
      exact alls_ints ac
    subst ex
    refine p_ret (ep_lstN (Ps := [pV (.ref c), pI 0, pI 0, pI (1 + ((ns.map fun i => (i.natAbs : Int)).length : Nat)), pI 0]) (ea_cons (ep_vv rfl) (ea_cons ep_i (ea_cons ep_i (ea_cons (ep_op ep_i ((ep_cb (ea_cons (ep_var rfl (show (pD K (.list ((ns.map fun i => (i.natAbs : Int)).map .int))).p (.ref c) H1 from .lst (SqL.of hc) ints_DpAll)) ea_nil) cp_lenL).imp fun _ _ _ p => by rw [List.length_map] at p; exact p) rp_I0) (ea_cons ep_i ea_nil))))) (by simp)) fun v2 H2 e2 p2 => ?_
    obtain ⟨h, ys, rfl, nh, hh, x1, _, rfl, q1, x2, _, rfl, q2, x3, _, rfl, q3, x4, _, rfl, q4, x5, _, rfl, q5, er⟩ := p2
    cases er
    cases q1
    cases q2
    cases q3
    cases q4
    cases q5
    refine ⟨h, c, _, _, _, _, by decide, hh, ?_⟩
    have hne : c ≠ h := fun z => by
      subst z
      rw [hc] at nh
      cases nh
    refine k _ _ (ns.map fun i => (i.natAbs : Int)) (Ex.mut (e1.trans e2) (fresh_back e1 nh)) ?_ (by rw [List.length_map]; exact hl) ⟨h, c, rfl, upd_same, by rw [upd_ne hne]; exact e2 _ _ hc⟩
    intro i hi
    obtain ⟨j, _, rfl⟩ := List.mem_map.mp hi
    omega
end
end K43
set_option Elab.async false
set_option linter.all false
set_option maxRecDepth 100000
set_option maxHeartbeats 4000000
/-! k43, part FH: _law_draw, _law_gcd, _law_frac, _law_times, _law_over, _law_some. -/
namespace K43
open PySem PySem.Spec L2 Evl C8
section
variable {K : PySem.W.Frag} {σ : L2.St} {H : Hp} {ta tb te : TE} {D : Ends} {tz : TS} {P : PD}
theorem p_setL1 {l : Addr} {xs : List V} {j : Nat} (hl : H l = some (.lst xs)) (h : EvP te σ H P) (ho : EvP ta σ H (pV (.ref l))) (hi : EvP tb σ H (pI (j : Int))) (hj : j < xs.length) (k : ∀ v H1, Ex H H1 → P.p v H1 → D.nx σ (upd H1 l (.lst (xs.set j v)))) :
    tAsg te (gSub ta tb rSetL) D σ H := h H (Ex.refl H) _ fun v H1 e1 p1 => ho H1 e1 _ fun x H2 e2 p2 => hi H2 (e1.trans e2) _ fun y H3 e3 p3 => by
  obtain rfl : x = .ref l := p2
  obtain rfl : y = .int (j : Int) := p3
  exact ⟨l, xs, (j : Int), j, rfl, rfl, ((e1.trans e2).trans e3) l _ hl, K43.ixN_nat hj, k v H3 ((e1.trans e2).trans e3) (PD.up _ (e2.trans e3) p1)⟩
theorem p_setL {l : Addr} {xs : List V} {j : Nat} (hl : H l = some (.lst xs)) (h : EvP te σ H P) (ho : EvP ta σ H (pV (.ref l))) (hi : EvP tb σ H (pI (j : Int))) (hj : j < xs.length) (k : ∀ v H1, Ex H H1 → P.p v H1 → tz D σ (upd H1 l (.lst (xs.set j v)))) :
    tSeq (tAsg te (gSub ta tb rSetL)) tz D σ H := p_setL1 (D := { D with nx := tz D }) hl h ho hi hj k
/-- an item of the open hand -/
theorem ep_hd {h c : Addr} {p q r s : Int} {i : Nat} {x : Int} (hh : H h = some (hdL c p q r s)) (hv : σ[0]? = some (some (.ref h))) (hi : [V.ref c, .int p, .int q, .int r, .int s][i]? = some (.int x)) : EvP (tOp (rIxL K) (tVar 0) (tC (.int (i : Nat)))) σ H (pI x) :=
  ep_rowL (ep_vv hv) ep_i hh hi
end
section
variable {P : Program} {w : World} {K : PySem.W.Frag} {mg : Str → Option Value} {base : Heap} {cE cW cT : Addr} {σ : L2.St} {H : Hp} {te tx tl : TE}
def spDraw : Sp := spF (fun (a : List Int × Nat) => [pHand a.1, pI a.2]) (fun a => pDr a.2) (fun a => (∀ i ∈ a.1, 0 ≤ i) ∧ 0 < a.2 ∧ a.2 < 1000)
theorem ep_int1 {i : Int} (h : EvP te σ H (pI i)) : EvP (tCB (fun xs H Q => (∃ i, xs = [.int i] ∧ Q (.int i) H) ∨ ∃ k, xs = [.bl k] ∧ Q (.int (if k then 1 else 0)) H) (tCons te tNil)) σ H (pI i) := ep_cb (ea_cons h ea_nil) cp_int
theorem cmulR {i j : Int} (h : -(2 ^ 64) < j ∧ j < 2 ^ 64) : CMul i j := .inr h
theorem cmulL {i j : Int} (h : -(2 ^ 64) < i ∧ i < 2 ^ 64) : CMul i j := .inl h
theorem ok43 (T : Txt K mg cE cW) : Cal P w K mg base 1 "_law_draw" spDraw [] := by
  have sc0 : FnScope ["_law_hand_here", "_law_many_here", "_law_cell", "_law_digit", "_law_number"] ["_law_hand_here", "_law_many_here"] (defScope (top 43)) := ⟨rfl, rfl, rfl, by decide +kernel, rfl, by decide +kernel, by decide +kernel⟩
  refine T.d43.cal sc0 (spF_len fun _ => rfl) fun cdv f A outer s H vs Q E hr h => ?_
  obtain ⟨⟨cs, m⟩, ⟨hcs, hm0, hm1⟩, ⟨v, _, rfl, ph, v2, _, rfl, p2, e⟩, k⟩ := h
  cases e
  cases p2
  replace hcs : ∀ i ∈ cs, 0 ≤ i := hcs
  replace hm0 : 0 < m := hm0
  replace hm1 : m < 1000 := hm1
  replace k : ∀ v H', Ex H H' → (pDr m).p v H' → Q v H' := k
  obtain ⟨h, c, rfl, hH, hC⟩ := ph
  have hne : c ≠ h := ne_of hC hH (by intro z; cases (show HO.lst _ = HO.ext _ from z))
  refine ⟨_, pss_open (Evl.pss_cut (ps_if (PW.pt (pw_and (pt_cmpR op_eq (pe_ix ix_list (pv 0) (pe_int) (fun _ _ => rfl)) (pe_int) (nomark _)) (pw_and1 (pt_cmpR op_lt (pe_ix ix_list (pv 0) (pe_int) (fun _ _ => rfl)) (pe_callB (call_len_seq) (by rfl) T.b_len (by decide +kernel) (pa_cons (pe_ix ix_list (pv 0) (pe_int) (fun _ _ => rfl)) (pa_nil))) (nomark _))))) (pss_cons (ps_set (i := 2) sc0.nd rfl (.inl rfl) (pe_ix ix_list (pe_ix ix_list (pv 0) (pe_int) (fun _ _ => rfl)) (pe_ix ix_list (pv 0) (pe_int) (fun _ _ => rfl)) (fun _ _ => rfl)))
    (pss_cons (ps_asg (pe_op op_add (pe_ix ix_list (pv 0) (pe_int) (fun _ _ => rfl)) (pe_int)) (pg_sub (pv 0) (pe_int) set_list))
    (pss_cons (ps_asg (pe_op op_mod (pe_callTy call_int1 (by rfl) T.b_int (by decide +kernel) (pa_cons (pe_op op_add (pe_op op_add (pe_op op_mul (pe_ix ix_list (pv 0) (pe_int) (fun _ _ => rfl)) (pe_int)) (pv 2)) (pe_int)) (pa_nil))) (pe_int)) (pg_sub (pv 0) (pe_int) set_list))
    (pss_one (ps_if (pt_cmpR op_ge (pv 2) (pe_op op_pow (pe_int) (pe_int)) (nomark _)) (pss_one (ps_asg (pv 2) (pg_sub (pv 0) (pe_int) set_list))) (pss_nil)))))) (pss_nil)) (pss_cons (ps_if (pt_cmpR op_gt (pe_ix ix_list (pv 0) (pe_int) (fun _ _ => rfl)) (pe_int) (nomark _)) (pss_cons (ps_set (i := 3) sc0.nd rfl (.inl rfl) (pe_op op_mod (pe_callTy call_int1 (by rfl) T.b_int (by decide +kernel) (pa_cons (pe_ix ix_list (pv 0) (pe_int) (fun _ _ => rfl)) (pa_nil))) (pv 1)))
    (pss_cons (ps_asg (pe_op op_fdiv (pe_ix ix_list (pv 0) (pe_int) (fun _ _ => rfl)) (pv 1)) (pg_sub (pv 0) (pe_int) set_list))
    (pss_one (ps_ret (pv 3))))) (pss_nil))
    (pss_cons (ps_asg (pe_op op_add (pe_ix ix_list (pv 0) (pe_int) (fun _ _ => rfl)) (pe_int)) (pg_sub (pv 0) (pe_int) set_list))
    (pss_cons (ps_set (i := 4) sc0.nd rfl (.inl rfl) (pe_op op_mod (pe_callTy call_int1 (by rfl) T.b_int (by decide +kernel) (pa_cons (pe_op op_mul (pe_callTy call_int1 (by rfl) T.b_int (by decide +kernel) (pa_cons (pe_op op_add (pe_ix ix_list (pv 0) (pe_int) (fun _ _ => rfl)) (pe_op op_mul (pe_int) (pe_ix ix_list (pv 0) (pe_int) (fun _ _ => rfl)))) (pa_nil))) (pe_int)) (pa_nil))) (pe_int)))
    (pss_cons (ps_set (i := 4) sc0.nd rfl (.inl rfl) (pe_op op_mod (pe_callTy call_int1 (by rfl) T.b_int (by decide +kernel) (pa_cons (pe_op op_mul (pv 4) (pe_op op_add (pe_op op_fdiv (pv 4) (pe_int)) (pe_int))) (pa_nil))) (pe_int)))
    (pss_cons (ps_set (i := 4) sc0.nd rfl (.inl rfl) (pe_op op_mod (pe_callTy call_int1 (by rfl) T.b_int (by decide +kernel) (pa_cons (pe_op op_mul (pv 4) (pe_op op_add (pe_op op_fdiv (pv 4) (pe_int)) (pe_int))) (pa_nil))) (pe_int)))
    (pss_one (ps_ret (pe_op op_mod (pe_callTy call_int1 (by rfl) T.b_int (by decide +kernel) (pa_cons (pe_op op_fdiv (pv 4) (pe_int)) (pa_nil))) (pv 1)))))))))), ?_⟩
  refine ⟨h, c, hH, fun p q r t hp => ?_⟩
  -- what stands but the hand
  have kp0 : ∀ x o, x ≠ h → H x = some o → (upd H h (hdL c p q r t)) x = some o := fun x o hx e => by rw [upd_ne hx]; exact e
  have out : ∀ {H' : Hp} {p q r t : Int} {v : V}, 0 ≤ p → H' h = some (hdL c p q r t) → (∀ x o, x ≠ h → H x = some o → H' x = some o) → (pDr m).p v H' → CLo h c H' (Q v) := fun {H' p q r t v} hp hh kp pv => by
    refine ⟨p, q, r, t, hp, hh, k v _ (fun x o e => ?_) pv⟩
    by_cases hx : x = h
    · subst hx
      rw [hH] at e
      rw [upd_same]
      exact e
    · rw [upd_ne hx]
      exact kp x o hx e
  have num : ∀ {i : Int} {H' : Hp}, (pDr m).p (.int (i % (m : Int))) H' := fun {i H'} => ⟨(i % (m : Int)).toNat, by
    have h1 := Int.emod_nonneg i (show (m : Int) ≠ 0 by omega)
    have h2 := Int.emod_lt_of_pos i (show (0 : Int) < m by omega)
    omega, by
    have h1 := Int.emod_nonneg i (show (m : Int) ≠ 0 by omega)
    congr 1
    omega⟩
  have hm : (0 : Int) < (m : Int) := by omega
  refine Evl.q_cut (M := fun σ' H' => ∃ p q r t a2, σ' = [some (.ref h), some (.int (m : Nat)), a2, none, none] ∧ 0 ≤ p ∧ H' h = some (hdL c p q r t) ∧ ∀ x o, x ≠ h → H x = some o → H' x = some o) ?_ ?_
  · have hC1 := kp0 c _ hne hC
    refine s_when (b := decide (q = 0) && decide (p < (cs.length : Nat))) (et_and (pt_test (ep_op (ep_hd (i := 2) upd_same rfl rfl) ep_i rp_eqI)) fun _ => pt_test (ep_op (ep_hd (i := 1) upd_same rfl rfl) ((ep_cb (Ps := [pD K (.list (cs.map .int))]) (ea_cons ((ep_rowL (i := 0) (ep_vv rfl) ep_i (show (upd H h (hdL c p q r t)) h = _ from upd_same) rfl).imp fun v' H' e' p' => ?g1) ea_nil) cp_lenL).imp fun _ _ _ p => by rw [List.length_map] at p; exact p) rp_I0b)) (fun hb H1 e1 => ?_) (fun hb H1 e1 => ?_)
    case g1 =>
      obtain rfl : v' = V.ref c := p'
      exact .lst (SqL.of (e' _ _ hC1)) ints_DpAll
    · rw [Bool.and_eq_true, decide_eq_true_iff, decide_eq_true_iff] at hb
      have hpl : p.toNat < cs.length := by omega
      obtain ⟨x, hx⟩ : ∃ x, cs[p.toNat]? = some x := ⟨cs[p.toNat], by simp [hpl]⟩
      have hh1 := e1 _ _ (show (upd H h (hdL c p q r t)) h = some (hdL c p q r t) from upd_same)
      have hc1 := e1 _ _ hC1
      refine p_asg (P := pV (.int x)) (ep_op (P := pV (.ref c)) (P' := pI (p.toNat : Nat)) (ep_rowL (i := 0) (ep_vv rfl) ep_i hh1 rfl) (ep_iis (ep_hd (i := 1) hh1 rfl rfl) (by omega)) fun a b H2 e2 pa pb Q2 q2 => ?g2) fun v1 H2 e2 p2 => ?_
      case g2 =>
        obtain rfl : a = V.ref c := pa
        obtain rfl : b = V.int (p.toNat : Nat) := pb
        exact ⟨c, _, (p.toNat : Nat), .int x, rfl, rfl, SqL.of (e2 _ _ hc1), atI_nat (by rw [List.getElem?_map, hx]; rfl), q2 _ H2 (Ex.refl _) rfl⟩
      obtain rfl : v1 = V.int x := p2
      have hh2 := e2 _ _ hh1
      refine p_setL (j := 1) hh2 (ep_op (ep_hd (i := 1) hh2 rfl rfl) ep_i rp_I0) (ep_vv rfl) ep_i (by simp) fun v3 H3 e3 p3 => ?_
      cases p3
      have hh3 : (upd H3 h (hdL c (p + 1) q r t)) h = some (hdL c (p + 1) q r t) := upd_same
      refine p_setL (j := 3) hh3 (ep_op (ep_int1 (ep_op (ep_op (ep_op (ep_hd (i := 3) hh3 rfl rfl) ep_i (rp_I (cmulR (by decide)))) (ep_vi rfl) rp_I0) ep_i rp_I0)) ep_i (rp_I (by decide))) (ep_vv rfl) ep_i (by simp) fun v4 H4 e4 p4 => ?_
      cases p4
      have kp4 : ∀ y o, y ≠ h → H y = some o → (upd H4 h (hdL c (p + 1) q ((r * 69621 + x + 11) % 2147483629) t)) y = some o := fun y o hy e => by
        rw [upd_ne hy]
        refine e4 _ _ ?_
        rw [upd_ne hy]
        exact e3 _ _ (e2 _ _ (e1 _ _ (kp0 y o hy e)))
      refine s_when (pt_test (ep_op (ep_vi rfl) (ep_op ep_i ep_i (rp_I ⟨by decide, by decide, by decide⟩)) rp_I0b)) (fun hb5 H5 e5 => ?_) (fun hb5 H5 e5 => ?_)
      · have hh5 : H5 h = some (hdL c (p + 1) q ((r * 69621 + x + 11) % 2147483629) t) := e5 _ _ upd_same
        refine p_setL1 (j := 2) hh5 (P := pI x) (ep_vi rfl) (ep_vv rfl) ep_i (by simp) fun v6 H6 e6 p6 => ?_
        cases p6
        refine ⟨p + 1, x, _, t, _, rfl, by omega, upd_same, fun y o hy e => ?_⟩
        rw [upd_ne hy]
        exact e6 _ _ (e5 _ _ (kp4 y o hy e))
      · exact ⟨p + 1, q, _, t, _, rfl, by omega, e5 _ _ upd_same, fun y o hy e => e5 _ _ (kp4 y o hy e)⟩
    · exact ⟨p, q, r, t, _, rfl, hp, e1 _ _ upd_same, fun y o hy e => e1 _ _ (kp0 y o hy e)⟩
  · rintro σ' H1 ⟨p, q, r, t, a2, rfl, hp, hh1, kp1⟩
    refine q_when (pt_test (ep_op (ep_hd (i := 2) hh1 rfl rfl) ep_i rp_I0b)) (fun hb H2 e2 => ?_) (fun hb H2 e2 => ?_)
    · have hh2 := e2 _ _ hh1
      refine p_asg (ep_op (ep_int1 (ep_hd (i := 2) hh2 rfl rfl)) (ep_vi rfl) (rp_I hm)) fun v3 H3 e3 p3 => ?_
      obtain rfl : v3 = V.int (q % (m : Int)) := p3
      have hh3 := e3 _ _ hh2
      refine p_setL (j := 2) hh3 (ep_op (ep_hd (i := 2) hh3 rfl rfl) (ep_vi (n := (m : Int)) rfl) (rp_I ⟨hm, by omega⟩)) (ep_vv rfl) ep_i (by simp) fun v4 H4 e4 p4 => ?_
      cases p4
      refine p_ret (P := pV (.int (q % (m : Int)))) (ep_vv rfl) fun v5 H5 e5 p5 => ?_
      obtain rfl : v5 = V.int (q % (m : Int)) := p5
      refine out (p := p) (q := q / (m : Int)) (r := r) (t := t) hp (e5 _ _ upd_same) (fun y o hy e => e5 _ _ ?_) num
      rw [upd_ne hy]
      exact e4 _ _ (e3 _ _ (e2 _ _ (kp1 y o hy e)))
    · have hh2 := e2 _ _ hh1
      refine p_setL (j := 4) hh2 (ep_op (ep_hd (i := 4) hh2 rfl rfl) ep_i rp_I0) (ep_vv rfl) ep_i (by simp) fun v3 H3 e3 p3 => ?_
      cases p3
      have hh3 : (upd H3 h (hdL c p q r (t + 1))) h = some (hdL c p q r (t + 1)) := upd_same
      have small : ∀ {i M : Int}, 0 < M → M ≤ 2147483647 → -(2 ^ 64) < i % M ∧ i % M < 2 ^ 64 := fun {i M} h0 h1 => by
        have h2 := Int.emod_nonneg i (show M ≠ 0 by omega)
        have h3 := Int.emod_lt_of_pos i h0
        have h4 : (2147483647 : Int) < 2 ^ 64 := by decide
        exact ⟨Int.lt_of_lt_of_le (by decide) h2, by omega⟩
      refine p_asg (ep_op (ep_int1 (ep_op (ep_int1 (ep_op (ep_hd (i := 3) hh3 rfl rfl) (ep_op ep_i (ep_hd (i := 4) hh3 rfl rfl) (rp_I (cmulL (by decide)))) rp_I0)) ep_i (rp_I (cmulR (by decide))))) ep_i (rp_I (by decide))) fun v4 H4 e4 p4 => ?_
      obtain rfl : v4 = V.int _ := p4
      refine p_asg (ep_op (ep_int1 (ep_op (ep_vi rfl) (ep_op (ep_op (ep_vi rfl) ep_i (rp_I ⟨by decide, by decide⟩)) ep_i rp_I0) (rp_I (cmulL (small (by decide) (by decide)))))) ep_i (rp_I (by decide))) fun v5 H5 e5 p5 => ?_
      obtain rfl : v5 = V.int _ := p5
      refine p_asg (ep_op (ep_int1 (ep_op (ep_vi rfl) (ep_op (ep_op (ep_vi rfl) ep_i (rp_I ⟨by decide, by decide⟩)) ep_i rp_I0) (rp_I (cmulL (small (by decide) (by decide)))))) ep_i (rp_I (by decide))) fun v6 H6 e6 p6 => ?_
      obtain rfl : v6 = V.int _ := p6
      refine p_ret (ep_op (ep_int1 (ep_op (ep_vi rfl) ep_i (rp_I ⟨by decide, by decide⟩))) (ep_vi (n := (m : Int)) rfl) (rp_I hm)) fun v7 H7 e7 p7 => ?_
      obtain rfl : v7 = V.int _ := p7
      refine out (p := p) (q := q) (r := r) (t := t + 1) hp (e7 _ _ (e6 _ _ (e5 _ _ (e4 _ _ hh3)))) (fun y o hy e => e7 _ _ (e6 _ _ (e5 _ _ (e4 _ _ ?_)))) num
      rw [upd_ne hy]
      exact e3 _ _ (e2 _ _ (kp1 y o hy e))
end
end K43
set_option Elab.async false
set_option linter.all false
set_option maxRecDepth 100000
set_option maxHeartbeats 4000000
set_option pp.maxSteps 800
/-! k43, part FI: _law_gcd, _law_frac, _law_times, _law_over, _law_some, _law_stall, _law_whole. -/
namespace K43
open PySem PySem.Spec L2 Evl C8
theorem gcd_step (a : Int) (b : Nat) : Int.gcd b (a % (b : Int)) = Int.gcd a b := by
  have h1 : Int.gcd b (a % (b : Int)) ∣ Int.gcd a b := by
    refine Nat.dvd_gcd ?_ ?_
    · have e1 : ((Int.gcd b (a % (b : Int)) : Nat) : Int) ∣ (b : Int) := Int.gcd_dvd_left ..
      have e2 : ((Int.gcd b (a % (b : Int)) : Nat) : Int) ∣ a % (b : Int) := Int.gcd_dvd_right ..
      have e3 : ((Int.gcd b (a % (b : Int)) : Nat) : Int) ∣ a := by
        have := Int.dvd_add (Int.dvd_trans e1 (Int.dvd_mul_right (b : Int) (a / (b : Int)))) e2
        rwa [Int.mul_ediv_add_emod] at this
      exact Int.ofNat_dvd_left.mp e3
    · have e1 : ((Int.gcd b (a % (b : Int)) : Nat) : Int) ∣ (b : Int) := Int.gcd_dvd_left ..
      exact Int.ofNat_dvd_left.mp e1
  have h2 : Int.gcd a b ∣ Int.gcd b (a % (b : Int)) := by
    have e1 : ((Int.gcd a b : Nat) : Int) ∣ (b : Int) := Int.gcd_dvd_right ..
    have e2 : ((Int.gcd a b : Nat) : Int) ∣ a := Int.gcd_dvd_left ..
    refine Nat.dvd_gcd (Int.ofNat_dvd_left.mp e1) (Int.ofNat_dvd_left.mp ?_)
    rw [Int.emod_def]
    exact Int.dvd_sub e2 (Int.dvd_trans e1 (Int.dvd_mul_right (b : Int) _))
  exact Nat.dvd_antisymm h1 h2
section
variable {P : Program} {w : World} {K : PySem.W.Frag} {mg : Str → Option Value} {base : Heap} {cE cW cT : Addr} {σ : L2.St} {H : Hp} {te tx tl : TE}
def spGcd : Sp := spF (fun (a : Int × Nat) => [pI a.1, pI a.2]) (fun a => pI (Int.gcd a.1 a.2 : Nat)) (fun _ => True)
theorem ok44 (T : Txt K mg cE cW) : Cal P w K mg base 1 "_law_gcd" spGcd [] := by
  have sc0 : FnScope ["_law_one", "_law_other"] ["_law_one", "_law_other"] (defScope (top 44)) := ⟨rfl, rfl, rfl, by decide +kernel, rfl, by decide +kernel, by decide +kernel⟩
  refine T.d44.cal sc0 (spF_len fun _ => rfl) fun cdv f A outer s H vs Q E hr h => ?_
  obtain ⟨⟨i, j⟩, _, ⟨v, r, rfl, p, v2, r2, rfl, p2, e⟩, k⟩ := h
  cases e
  cases p
  cases p2
  refine ⟨_, pss_cons (ps_while PassesOwn.never (pt_cmpR op_ne (pv 1) (pe_int) (nomark _)) (pss_one (ps_par (i := 0) (j := 1) (by rfl) sc0.nd rfl rfl (by decide) rfl rfl (pa_cons (pv 1) (pa_cons (pe_op op_mod (pe_callTy call_int1 (by rfl) T.b_int (by decide +kernel) (pa_cons (pv 0) (pa_nil))) (pv 1)) (pa_nil))) (by rfl))))
    (pss_one (ps_ret (pe_callB (call_abs) (by rfl) T.b_abs (by decide +kernel) (pa_cons (pv 0) (pa_nil))))), ?_⟩
  refine q_while (fun m σ H2 => ∃ (a : Int) (b : Nat), σ = [some (.int a), some (.int (b : Nat))] ∧ b = m ∧ Int.gcd a b = Int.gcd i j ∧ Ex H H2) j ⟨i, j, rfl, rfl, rfl, Ex.refl _⟩ ?_
  rintro m σ H2 ⟨a, b, rfl, rfl, hg, e2⟩
  refine ⟨_, pt_test (ep_op (ep_vi rfl) ep_i rp_neI), fun hb H3 e3 => ?_, fun hb H3 e3 => ?_⟩
  · have hb' : 0 < b := by
      have : ¬ (b : Int) = 0 := by simpa using hb
      omega
    refine ⟨_, fun σ2 H4 h => h, ?_⟩
    refine p_par1 (ea_cons (ep_vi rfl) (ea_cons (ep_op (ep_int1 (ep_vi rfl)) (ep_vi rfl) (rp_I (show (0 : Int) < (b : Int) by omega))) ea_nil)) fun v w H4 e4 p p2 => ?_
    cases p
    cases p2
    have h1 := Int.emod_nonneg a (show (b : Int) ≠ 0 by omega)
    have h2 := Int.emod_lt_of_pos a (show (0 : Int) < (b : Int) by omega)
    refine ⟨(a % (b : Int)).toNat, by omega, (b : Int), (a % (b : Int)).toNat, ?_, rfl, ?_, (e2.trans e3).trans e4⟩
    · have : ((a % (b : Int)).toNat : Int) = a % (b : Int) := by omega
      rw [this]
      rfl
    · have : ((a % (b : Int)).toNat : Int) = a % (b : Int) := by omega
      rw [← hg, this]
      exact gcd_step a b
  · have hb' : b = 0 := by
      have : (b : Int) = 0 := by simpa using hb
      omega
    subst hb'
    refine p_ret (ep_cb (ea_cons (ep_vi (n := a) rfl) ea_nil) cp_abs) fun v H4 e4 p => k v H4 ((e2.trans e3).trans e4) ?_
    have : a.natAbs = Int.gcd i j := by rw [← hg]; simp
    rw [this] at p
    exact p
def spFrac (K : PySem.W.Frag) : Sp := spF (fun (a : Int × Nat) => [pI a.1, pI a.2]) (fun a => pD K (ratD (mkRat a.1 a.2))) (fun a => 0 < a.2 ∧ a.2 < 2 ^ BIG)
theorem ok45 (T : Txt K mg cE cW) : Cal P w K mg base 2 "_law_frac" (spFrac K) [] := by
  have sc0 : FnScope ["_law_top", "_law_bottom", "_law_part"] ["_law_top", "_law_bottom"] (defScope (top 45)) := ⟨rfl, rfl, rfl, by decide +kernel, rfl, by decide +kernel, by decide +kernel⟩
  refine T.d45.cal sc0 (spF_len fun _ => rfl) fun cdv f A outer s H vs Q E hr h => ?_
  obtain ⟨⟨i, j⟩, ⟨h0, hB⟩, ⟨v, r, rfl, p, v2, r2, rfl, p2, e⟩, k⟩ := h
  cases e
  cases p
  cases p2
  replace h0 : 0 < j := h0
  replace hB : j < 2 ^ BIG := hB
  refine ⟨_, pss_cons (ps_set (i := 2) sc0.nd rfl (.inl rfl) (pe_c (ok44 T) hr (by decide) rfl (pa_cons (pv 0) (pa_cons (pv 1) (pa_nil)))))
    (pss_cons (ps_if (pt_cmpR op_lt (pv 1) (pe_int) (nomark _)) (pss_one (ps_set (i := 2) sc0.nd rfl (.inl rfl) (pe_un un_neg (pv 2)))) (pss_nil))
    (pss_one (ps_ret (pe_tup (pa_cons (pe_op op_fdivW (pv 0) (pv 2)) (pa_cons (pe_op op_fdivW (pv 1) (pv 2)) (pa_nil))))))), ?_⟩
  refine p_asg (ep_call (i, j) trivial (ea_cons (ep_vi rfl) (ea_cons (ep_vi rfl) ea_nil))) fun v3 H1 e1 p3 => ?_
  obtain rfl : v3 = V.int (Int.gcd i j : Nat) := p3
  have hg : 0 < Int.gcd i j := Int.gcd_pos_of_ne_zero_right _ (by omega)
  have hgl : Int.gcd i j ≤ j := by
    have : Int.gcd i (j : Int) ∣ j := Int.gcd_dvd_natAbs_right i (j : Int)
    exact Nat.le_of_dvd h0 this
  have hd : ∀ x : Int, CDivW x (Int.gcd i j : Nat) := fun x => wide_div (b := BIG) (by omega) (by show Int.gcd i j < _; omega) (by decide) (by decide)
  refine p_pass (pt_test (ep_bis (ep_op (ep_vi (n := (j : Int)) rfl) ep_i rp_I0b) (decide_eq_false (by omega)))) fun H2 e2 => ?_
  refine p_ret (ep_tup (K := K) (Ps := [pI _, pI _]) (ea_cons (ep_op (ep_vi rfl) (ep_vi rfl) (rp_I (hd _))) (ea_cons (ep_op (ep_vi rfl) (ep_vi rfl) (rp_I (hd _))) ea_nil)) (by simp)) fun v4 H3 e3 p4 => k _ _ ((e1.trans e2).trans e3) ?_
  obtain ⟨t, xs, rfl, ht, x1, _, rfl, q1, x2, _, rfl, q2, er⟩ := p4
  cases er
  cases q1
  cases q2
  have n1 := mkRat_toNat_num (a := i) h0
  have n2 := mkRat_toNat_den (a := i) h0
  refine .tup ht (.cons ?_ (.cons ?_ .nil))
  · rw [n1]; exact .int _
  · rw [n2]; exact .int _
def ratA (K : PySem.W.Frag) : Rat × Rat → List PD := fun a => [pD K (ratD a.1), pD K (ratD a.2)]
def spTimes (K : PySem.W.Frag) : Sp := spF (ratA K) (fun a => pD K (ratD (a.1 * a.2))) (fun a => Sz 1900 a.1 ∧ Sz 1900 a.2)
def spOverL (K : PySem.W.Frag) : Sp := spF (ratA K) (fun a => pD K (ratD (a.1 / a.2))) (fun a => Sz 1900 a.1 ∧ Sz 1900 a.2 ∧ 0 < a.2)
theorem ok48 (T : Txt K mg cE cW) : Cal P w K mg base 3 "_law_times" (spTimes K) [] := by
  have sc0 : FnScope ["_law_one", "_law_other"] ["_law_one", "_law_other"] (defScope (top 48)) := ⟨rfl, rfl, rfl, by decide +kernel, rfl, by decide +kernel, by decide +kernel⟩
  refine T.d48.cal sc0 (spF_len fun _ => rfl) fun cdv f A outer s H vs Q E hr h => ?_
  obtain ⟨⟨q, r⟩, ⟨hq, hr2⟩, ⟨v, _, rfl, p, v2, _, rfl, p2, e⟩, k⟩ := h
  cases e
  replace k : ∀ v H', Ex H H' → (pD K (ratD (q * r))).p v H' → Q v H' := k
  refine ⟨_, pss_one (ps_ret (pe_c (ok45 T) hr (by decide) rfl (pa_cons (pe_op op_mulW (pe_ix ix_tup (pv 0) (pe_int) (fun _ _ => rfl)) (pe_ix ix_tup (pv 1) (pe_int) (fun _ _ => rfl))) (pa_cons (pe_op op_mulW (pe_ix ix_tup (pv 0) (pe_int) (fun _ _ => rfl)) (pe_ix ix_tup (pv 1) (pe_int) (fun _ _ => rfl))) (pa_nil))))), ?_⟩
  refine p_ret (P := pD K (ratD (q * r))) ?_ k
  rw [Rat.mul_def']
  refine ep_call (q.num * r.num, q.den * r.den) ⟨Nat.mul_pos q.den_pos r.den_pos, ?_⟩ (ea_cons (ep_op (ep_ixI (i := 0) (ep_var rfl p) ep_i rfl) (ep_ixI (i := 0) (ep_var rfl p2) ep_i rfl) (rp_I (wmul hq.1 hr2.1 (by decide))))
    (ea_cons ((ep_op (ep_ixI (i := 1) (ep_var rfl p) ep_i rfl) (ep_ixI (i := 1) (ep_var rfl p2) ep_i rfl) (rp_I (wmul (i := (q.den : Nat)) (j := (r.den : Nat)) hq.2 hr2.2 (by decide)))).imp fun v' _ _ p' => ?_) ea_nil))
  · have := Nat.mul_lt_mul'' hq.2 hr2.2
    rw [← Nat.pow_add] at this
    exact Nat.lt_of_lt_of_le this (Nat.pow_le_pow_right (by decide) (by decide))
  · show v' = V.int ((q.den * r.den : Nat) : Int)
    rw [show v' = V.int ((q.den : Int) * (r.den : Int)) from p']
    congr 1
theorem ok49 (T : Txt K mg cE cW) : Cal P w K mg base 3 "_law_over" (spOverL K) [] := by
  have sc0 : FnScope ["_law_one", "_law_other"] ["_law_one", "_law_other"] (defScope (top 49)) := ⟨rfl, rfl, rfl, by decide +kernel, rfl, by decide +kernel, by decide +kernel⟩
  refine T.d49.cal sc0 (spF_len fun _ => rfl) fun cdv f A outer s H vs Q E hr h => ?_
  obtain ⟨⟨q, r⟩, ⟨hq, hr2, hr0⟩, ⟨v, _, rfl, p, v2, _, rfl, p2, e⟩, k⟩ := h
  cases e
  replace hr0 : 0 < r := hr0
  replace k : ∀ v H', Ex H H' → (pD K (ratD (q / r))).p v H' → Q v H' := k
  have hn := num_pos hr0
  refine ⟨_, pss_one (ps_ret (pe_c (ok45 T) hr (by decide) rfl (pa_cons (pe_op op_mulW (pe_ix ix_tup (pv 0) (pe_int) (fun _ _ => rfl)) (pe_ix ix_tup (pv 1) (pe_int) (fun _ _ => rfl))) (pa_cons (pe_op op_mulW (pe_ix ix_tup (pv 0) (pe_int) (fun _ _ => rfl)) (pe_ix ix_tup (pv 1) (pe_int) (fun _ _ => rfl))) (pa_nil))))), ?_⟩
  refine p_ret (P := pD K (ratD (q / r))) ?_ k
  rw [← over_eq hr0]
  refine ep_call (q.num * r.den, q.den * r.num.toNat) ⟨Nat.mul_pos q.den_pos (by omega), ?_⟩ (ea_cons (ep_op (ep_ixI (i := 0) (ep_var rfl p) ep_i rfl) (ep_ixI (i := 1) (ep_var rfl p2) ep_i rfl) (rp_I (wmul (j := (r.den : Nat)) hq.1 hr2.2 (by decide))))
    (ea_cons ((ep_op (ep_ixI (i := 1) (ep_var rfl p) ep_i rfl) (ep_ixI (i := 0) (ep_var rfl p2) ep_i rfl) (rp_I (wmul (i := (q.den : Nat)) hq.2 hr2.1 (by decide)))).imp fun v' _ _ p' => ?_) ea_nil))
  · have h2 : r.num.toNat < 2 ^ 1900 := by
      have h3 : r.num.natAbs < 2 ^ 1900 := hr2.1
      omega
    have := Nat.mul_lt_mul'' hq.2 h2
    rw [← Nat.pow_add] at this
    exact Nat.lt_of_lt_of_le this (Nat.pow_le_pow_right (by decide) (by decide))
  · show v' = V.int ((q.den * r.num.toNat : Nat) : Int)
    rw [show v' = V.int ((q.den : Int) * r.num) from p']
    congr 1
    rw [Int.natCast_mul]
    congr 1
    omega
/-- 1 + some number below m -/
def pDr1 (m : Nat) : PD := ⟨fun v _ => ∃ k : Nat, 0 < k ∧ k ≤ m ∧ v = .int k, fun _ h => h⟩
theorem rp_dr1 {m : Nat} : RP (rI0 fun i j => .int (i + j)) (pI 1) (pDr m) H (pDr1 m) := fun x y H1 _ p p' Q q => by
  obtain rfl : x = V.int 1 := p
  obtain ⟨k, hk, rfl⟩ := p'
  exact ⟨1, k, rfl, rfl, q _ H1 (Ex.refl H1) ⟨k + 1, by omega, by omega, by rw [Int.natCast_succ, Int.add_comm]⟩⟩
theorem ep_draw {cs : List Int} {m : Nat} {E : XK} {ta : TA} (hcs : ∀ i ∈ cs, 0 ≤ i) (h0 : 0 < m) (h1 : m < 1000) (ha : EvPA ta σ H [pHand cs, pI (m : Int)]) : EvP (tCall spDraw [] E ta) σ H (pDr m) := ep_callS ha (spp (α := List Int × Nat) (cs, m) ⟨hcs, h0, h1⟩)
/-- some positive number of few bits -/
def pSome (K : PySem.W.Frag) (k : Nat) : PD := ⟨fun v H => ∃ q, 0 < q ∧ Sz k q ∧ (pD K (ratD q)).p v H, fun e ⟨q, h1, h2, h3⟩ => ⟨q, h1, h2, PD.up _ e h3⟩⟩
def spSome (K : PySem.W.Frag) : Sp := spF (fun (cs : List Int) => [pHand cs]) (fun _ => pSome K 3) (fun cs => ∀ i ∈ cs, 0 ≤ i)
theorem mkRat_pos {a b : Nat} (ha : 0 < a) (hb : 0 < b) : 0 < mkRat a b := by
  refine (Rat.lt_iff 0 _).mpr ?_
  rw [Rat.num_mkRat, if_neg (by omega)]
  have z1 : (0 : Rat).num = 0 := rfl
  have z2 : (0 : Rat).den = 1 := rfl
  rw [z1, z2, Int.zero_mul]
  show (0 : Int) < _ * 1
  rw [Int.mul_one]
  refine Int.ediv_pos_of_pos_of_dvd (by omega) (by omega) ?_
  exact Int.ofNat_dvd_left.mpr (Nat.gcd_dvd_right _ _)
theorem ok50 (T : Txt K mg cE cW) : Cal P w K mg base 3 "_law_some" (spSome K) [] := by
  have sc0 : FnScope ["_law_hand_here"] ["_law_hand_here"] (defScope (top 50)) := ⟨rfl, rfl, rfl, by decide +kernel, rfl, by decide +kernel, by decide +kernel⟩
  refine T.d50.cal sc0 (spF_len fun _ => rfl) fun cdv f A outer s H vs Q E hr h => ?_
  obtain ⟨cs, hcs, ⟨v, _, rfl, ph, e⟩, k⟩ := h
  cases e
  replace ph : (pHand cs).p v H := ph
  replace k : ∀ v H', Ex H H' → (pSome K 3).p v H' → Q v H' := k
  refine ⟨_, pss_one (ps_ret (pe_c (ok45 T) hr (by decide) rfl (pa_cons (pe_op op_add (pe_int) (pe_c (ok43 T) hr (by decide) rfl (pa_cons (pv 0) (pa_cons (pe_int) (pa_nil))))) (pa_cons (pe_op op_add (pe_int) (pe_c (ok43 T) hr (by decide) rfl (pa_cons (pv 0) (pa_cons (pe_int) (pa_nil))))) (pa_nil))))), ?_⟩
  refine p_ret (P := pSome K 3) (ep_callS (Ps := [pDr1 6, pDr1 4]) (ea_cons (ep_op ep_i (ep_draw (m := 6) hcs (by decide) (by decide) (ea_cons (ep_var rfl ph) (ea_cons ep_i ea_nil))) rp_dr1) (ea_cons (ep_op ep_i (ep_draw (m := 4) hcs (by decide) (by decide) (ea_cons (ep_var rfl ph) (ea_cons ep_i ea_nil))) rp_dr1) ea_nil)) fun vs H1 e1 ps Q2 E2 q2 => ?_) k
  obtain ⟨v1, _, rfl, ⟨a, ha0, ha, rfl⟩, v2, _, rfl, ⟨b, hb0, hb, rfl⟩, er⟩ := ps
  cases er
  refine ⟨((a : Int), b), ⟨hb0, Nat.lt_of_le_of_lt hb (Nat.lt_of_lt_of_le (show 4 < 2 ^ 3 by decide) (Nat.pow_le_pow_right (by decide) (by decide)))⟩, ⟨_, _, rfl, rfl, _, _, rfl, rfl, rfl⟩, fun v' H' e' p' => q2 v' H' e' ⟨_, mkRat_pos ha0 hb0, sz_mkRat (by show a < 8; omega) (by show b < 8; omega) hb0, p'⟩⟩
structure StlA where
  cs : List Int
  u : Nat
  v : Nat
  q : Rat
def pStl (K : PySem.W.Frag) (u v : Nat) (q : Rat) : PD := ⟨fun x H => ∃ r, 0 < r ∧ Sz 3 r ∧ (pD K (stlD ⟨u, v, r * q, r / q, r⟩)).p x H, fun e ⟨r, h1, h2, h3⟩ => ⟨r, h1, h2, PD.up _ e h3⟩⟩
def spStall (K : PySem.W.Frag) : Sp := spF (fun (a : StlA) => [pHand a.cs, pI a.u, pI a.v, pD K (ratD a.q)]) (fun a => pStl K a.u a.v a.q) (fun a => (∀ i ∈ a.cs, 0 ≤ i) ∧ 0 < a.q ∧ Sz 50 a.q)
theorem ok52 (T : Txt K mg cE cW) : Cal P w K mg base 4 "_law_stall" (spStall K) [] := by
  have sc0 : FnScope ["_law_hand_here", "_law_one", "_law_other", "_law_quotient", "_law_root"] ["_law_hand_here", "_law_one", "_law_other", "_law_quotient"] (defScope (top 52)) := ⟨rfl, rfl, rfl, by decide +kernel, rfl, by decide +kernel, by decide +kernel⟩
  refine T.d52.cal sc0 (spF_len fun _ => rfl) fun cdv f A outer s H vs Q E hr h => ?_
  obtain ⟨⟨cs, u, v, q⟩, ⟨hcs, hq0, hq⟩, ⟨v1, _, rfl, ph, v2, _, rfl, p2, v3, _, rfl, p3, v4, _, rfl, p4, e⟩, k⟩ := h
  cases e
  cases p2
  cases p3
  replace ph : (pHand cs).p v1 H := ph
  replace hcs : ∀ i ∈ cs, 0 ≤ i := hcs
  replace hq0 : 0 < q := hq0
  replace hq : Sz 50 q := hq
  replace p4 : (pD K (ratD q)).p v4 H := p4
  replace k : ∀ v' H', Ex H H' → (pStl K u v q).p v' H' → Q v' H' := k
  refine ⟨_, pss_cons (ps_set (i := 4) sc0.nd rfl (.inl rfl) (pe_c (ok50 T) hr (by decide) rfl (pa_cons (pv 0) (pa_nil))))
    (pss_one (ps_ret (pe_tup (pa_cons (pv 1) (pa_cons (pv 2) (pa_cons (pe_c (ok48 T) hr (by decide) rfl (pa_cons (pv 4) (pa_cons (pv 3) (pa_nil)))) (pa_cons (pe_c (ok49 T) hr (by decide) rfl (pa_cons (pv 4) (pa_cons (pv 3) (pa_nil)))) (pa_cons (pv 4) (pa_nil))))))))), ?_⟩
  refine p_asg (P := pSome K 3) (ep_callS (ea_cons (ep_var rfl ph) ea_nil) (spp (α := List Int) cs hcs)) fun v5 H1 e1 p5 => ?_
  obtain ⟨r, hr0, hr3, p5⟩ := p5
  have p41 := PD.up _ e1 p4
  refine p_ret (ep_tup (K := K) (Ps := [pI u, pI v, pD K (ratD (r * q)), pD K (ratD (r / q)), pD K (ratD r)]) (ea_cons (ep_vi rfl) (ea_cons (ep_vi rfl) (ea_cons (ep_call (α := Rat × Rat) (r, q) ⟨hr3.mono (by decide), hq.mono (by decide)⟩ (ea_cons (ep_var rfl p5) (ea_cons (ep_var rfl p41) ea_nil)))
    (ea_cons (ep_call (α := Rat × Rat) (r, q) ⟨hr3.mono (by decide), hq.mono (by decide), hq0⟩ (ea_cons (ep_var rfl p5) (ea_cons (ep_var rfl p41) ea_nil))) (ea_cons (ep_var rfl p5) ea_nil))))) (by simp)) fun v6 H2 e2 p6 => k _ _ (e1.trans e2) ⟨r, hr0, hr3, ?_⟩
  obtain ⟨t, xs, rfl, ht, x1, _, rfl, q1, x2, _, rfl, q2, x3, _, rfl, q3, x4, _, rfl, q4, x5, _, rfl, q5, er⟩ := p6
  cases er
  cases q1
  cases q2
  exact .tup ht (.cons (.int _) (.cons (.int _) (.cons q3 (.cons q4 (.cons q5 .nil)))))
def spWhole : Sp := spF (fun (i : Int) => [pI i]) (fun _ => pB true) (fun _ => True)
theorem ok55 (T : Txt K mg cE cW) : Cal P w K mg base 1 "_law_whole" spWhole [] := by
  have sc0 : FnScope ["_law_thing"] ["_law_thing"] (defScope (top 55)) := ⟨rfl, rfl, rfl, by decide +kernel, rfl, by decide +kernel, by decide +kernel⟩
  refine T.d55.cal sc0 (spF_len fun _ => rfl) fun cdv f A outer s H vs Q E hr h => ?_
  obtain ⟨i, _, ⟨v, r, rfl, p, e⟩, k⟩ := h
  cases e
  cases p
  refine ⟨_, pss_one (ps_ret (pe_and (pe_callB call_isi (by rfl) T.b_isi (by decide +kernel) (pa_cons (pv 0) (pa_cons (pe_bltn (v := .ty "int") (by rfl) T.b_int (by decide +kernel) rfl) pa_nil)))
    (pe_one (pe_not (pe_callB call_isi (by rfl) T.b_isi (by decide +kernel) (pa_cons (pv 0) (pa_cons (pe_bltn (v := .ty "bool") (by rfl) T.b_bool (by decide +kernel) rfl) pa_nil))))))), ?_⟩
  exact p_ret (ep_and (ep_cb (ea_cons (ep_vi rfl) (ea_cons ep_c ea_nil)) cp_isiI) fun _ => ep_not (ep_cb (ea_cons (ep_vi rfl) (ea_cons ep_c ea_nil)) cp_isiB)) k
end
end K43
set_option Elab.async false
set_option linter.all false
set_option maxRecDepth 100000
set_option maxHeartbeats 4000000
set_option pp.maxSteps 800
/-! k43, part FJ: _law_shuffled, _law_stalls. -/
namespace K43
open PySem PySem.Spec L2 Evl C8
theorem noList_stls : ∀ ss : List Stl, noListAll (ss.map stlD) = true
  | [] => by simp [noListAll]
  | s :: ss => by rw [List.map_cons, noListAll, noList_stls ss, noList_stl]; rfl
theorem DpAll.erase {K : PySem.W.Frag} {H : Hp} : ∀ {xs : List V} {ds : List PyData} (k : Nat), DpAll K H xs ds → DpAll K H (xs.eraseIdx k) (ds.eraseIdx k)
  | _, _, _, .nil => by simp; exact .nil
  | _, _, 0, .cons _ t => by simpa using t
  | _, _, k + 1, .cons a t => by
    rw [List.eraseIdx_cons_succ, List.eraseIdx_cons_succ]
    exact .cons a (DpAll.erase k t)
theorem map_erase {α β : Type} (f : α → β) : ∀ (l : List α) (k : Nat), (l.eraseIdx k).map f = (l.map f).eraseIdx k
  | [], _ => rfl
  | _ :: _, 0 => rfl
  | a :: l, k + 1 => by
    rw [List.eraseIdx_cons_succ, List.map_cons, List.map_cons, List.eraseIdx_cons_succ, map_erase f l k]
theorem erase_perm {α : Type} : ∀ {l : List α} {k : Nat} {a : α}, l[k]? = some a → (a :: l.eraseIdx k).Perm l
  | [], _, _, h => by simp at h
  | b :: l, 0, a, h => by
    simp at h
    subst h
    simp
  | b :: l, k + 1, a, h => by
    rw [List.eraseIdx_cons_succ]
    exact (List.Perm.swap b a _).trans ((erase_perm (l := l) (k := k) (by simpa using h)).cons b)
section
variable {P : Program} {w : World} {K : PySem.W.Frag} {mg : Str → Option Value} {base : Heap} {cE cW cT : Addr} {σ : L2.St} {H : Hp} {te tx tl : TE}
def spShuf (K : PySem.W.Frag) : Sp := fun vs H Q _ => ∃ (cs : List Int) (v : V) (l : Addr) (ss : List Stl), (∀ i ∈ cs, 0 ≤ i) ∧ vs = [v, .ref l] ∧ (pHand cs).p v H ∧ Dp K H (.ref l) (.list (ss.map stlD)) ∧ ss.length ≤ 20 ∧
  ∀ (a : Addr) (xs : List V) (ss' : List Stl) H', Ex H H' → H a = none → H' a = some (.lst xs) → DpAll K H' xs (ss'.map stlD) → ss'.Perm ss → Q (.ref a) H'
theorem ok51 (T : Txt K mg cE cW) : Cal P w K mg base 2 "_law_shuffled" (spShuf K) [] := by
  have sc0 : FnScope ["_law_hand_here", "_law_things", "_law_pool", "_law_found"] ["_law_hand_here", "_law_things"] (defScope (top 51)) := ⟨rfl, rfl, rfl, by decide +kernel, rfl, by decide +kernel, by decide +kernel⟩
  refine T.d51.cal sc0 (fun vs H Q E h => by obtain ⟨cs, v, l, ss, _, rfl, _⟩ := h; rfl) fun cdv f A outer s H vs Q E hr h => ?_
  obtain ⟨cs, v, l, ss, hcs, rfl, ph, dl, hlen, k⟩ := h
  obtain ⟨_, ls, el, hl, dls⟩ := Dp.lst_inv dl
  cases el
  refine ⟨_, pss_cons (ps_set (i := 2) sc0.nd rfl (.inl rfl) (pe_callTy (call_list_of) (by rfl) T.b_list (by decide +kernel) (pa_cons (pv 1) (pa_nil))))
    (pss_cons (ps_set (i := 3) sc0.nd rfl (.inl rfl) (pe_lst (pa_nil)))
    (pss_cons (ps_while PassesOwn.never (pt_cmpR op_gt (pe_callB (call_len_seq) (by rfl) T.b_len (by decide +kernel) (pa_cons (pv 2) (pa_nil))) (pe_int) (nomark _)) (pss_one (ps_expr (pe_bm PySem.F.plainAttrs_list PySem.F.slot_list_append PySem.F.type_list_append mt_append (pv 3) (pa_cons (pe_bm PySem.F.plainAttrs_list PySem.F.slot_list_pop PySem.F.type_list_pop mt_popAt (pv 2) (pa_cons (pe_c (ok43 T) hr (by decide) rfl (pa_cons (pv 0) (pa_cons (pe_callB (call_len_seq) (by rfl) T.b_len (by decide +kernel) (pa_cons (pv 2) (pa_nil))) (pa_nil)))) (pa_nil))) (pa_nil))))))
    (pss_one (ps_ret (pv 3))))), ?_⟩
  refine p_asg (P := ⟨fun x H' => ∃ p, x = .ref p ∧ H p = none ∧ H' p = some (.lst ls), fun e ⟨p, h1, h2, h3⟩ => ⟨p, h1, h2, e _ _ h3⟩⟩) (ep_cb (Ps := [pV (.ref l)]) (ea_cons (ep_vv rfl) ea_nil) fun vs H1 e1 ps Q2 q2 => ?g1) fun v1 H1 e1 p1 => ?_
  case g1 =>
    obtain ⟨x, _, rfl, px, er⟩ := ps
    cases er
    cases px
    exact ⟨l, ls, rfl, .inl (ex_l e1 hl), fun p hp => q2 _ _ (Ex.new hp) ⟨p, rfl, fresh_back e1 hp, upd_same⟩⟩
  obtain ⟨Pl, rfl, nP, hP⟩ := p1
  refine p_asg (ep_lstN (Ps := []) ea_nil (by simp)) fun v2 H2 e2 p2 => ?_
  obtain ⟨Fo, _, rfl, nF, hF, rfl⟩ := p2
  have e02 := e1.trans e2
  refine q_while (fun m σ' H' => ∃ as bs ps fs, σ' = [some v, some (.ref l), some (.ref Pl), some (.ref Fo)] ∧ Ex H H' ∧ H' Pl = some (.lst ps) ∧ H' Fo = some (.lst fs) ∧ DpAll K H' ps (as.map stlD) ∧ DpAll K H' fs (bs.map stlD) ∧ (bs ++ as).Perm ss ∧ as.length = m) ss.length
    ⟨ss, [], ls, [], rfl, e02, e2 _ _ hP, hF, DpAll.up e02 dls, .nil, List.Perm.refl _, rfl⟩ ?_
  rintro m σ' H3 ⟨as, bs, ps, fs, rfl, ex3, hP3, hF3, dp3, df3, pm3, rfl⟩
  have nPF : Pl ≠ Fo := ne_of_none hP nF
  have lp := DpAll.len dp3
  rw [List.length_map] at lp
  have lf := DpAll.len df3
  rw [List.length_map] at lf
  have lpm := pm3.length_eq
  rw [List.length_append] at lpm
  have nPH : H Pl = none := nP
  have nFH : H Fo = none := fresh_back e1 nF
  have lenP : ∀ {H' : Hp}, H' Pl = some (.lst ps) → DpAll K H' ps (as.map stlD) → EvP (tCB (fun xs H Q => ∃ p ys, xs = [.ref p] ∧ (SqL K H p ys ∨ SqT K H p ys) ∧ Q (.int ys.length) H) (tCons (tVar 2) tNil)) [some v, some (.ref l), some (.ref Pl), some (.ref Fo)] H' (pI (as.length : Nat)) := fun {H'} h1 h2 =>
    (ep_cb (ea_cons (ep_var rfl (show (pD K (.list (as.map stlD))).p (.ref Pl) H' from .lst (SqL.of h1) h2)) ea_nil) cp_lenL).imp fun _ _ _ p => by rw [List.length_map] at p; exact p
  refine ⟨_, pt_test (ep_op (lenP hP3 dp3) ep_i rp_I0b), fun hb H4 e4 => ?_, fun hb H4 e4 => ?_⟩
  · have hpos : 0 < as.length := by
      have := of_decide_eq_true hb
      omega
    refine ⟨_, fun σ2 H2 h => h, ?_⟩
    have hP4 := e4 _ _ hP3
    have hF4 := e4 _ _ hF3
    refine ⟨_, rfl, Or.inl ⟨rfl, _, sq_of hF4⟩, _, rfl, Or.inl ⟨rfl, _, sq_of hP4⟩, ?_⟩
    refine (show EvPA (tCons (tCall spDraw [] L2.E0 (tCons (tVar 0) (tCons (tCB (fun xs H Q => ∃ p ys, xs = [.ref p] ∧ (SqL K H p ys ∨ SqT K H p ys) ∧ Q (.int ys.length) H) (tCons (tVar 2) tNil)) tNil))) tNil) [some v, some (.ref l), some (.ref Pl), some (.ref Fo)] H4 [pDr as.length] from
      ea_cons (ep_draw hcs hpos (by omega) (ea_cons (ep_var rfl (PD.up _ (ex3.trans e4) ph)) (ea_cons (lenP hP4 (DpAll.up e4 dp3)) ea_nil))) ea_nil) H4 (Ex.refl _) _ fun vs5 H5 e5 p5 => ?_
    obtain ⟨x5, _, rfl, ⟨d, hd, rfl⟩, er⟩ := p5
    cases er
    have hP5 := e5 _ _ hP4
    have hF5 := e5 _ _ hF4
    obtain ⟨st, hst⟩ : ∃ st, as[d]? = some st := ⟨as[d], by simp [hd]⟩
    obtain ⟨y, hy, dy⟩ := DpAll.getd (DpAll.up (e4.trans e5) dp3) (stl_at (ss := as) hst)
    have hseq : seqIndex? (d : Int) ps.length = some d := by
      unfold seqIndex?
      have h0 : ¬ ((d : Int) < 0) := by omega
      simp only [h0, if_false]
      have h1 : (0 : Int) ≤ (d : Int) := by omega
      have h2 : (d : Int) < (ps.length : Nat) := by omega
      simp [h1, h2]
    refine ⟨Pl, ps, (d : Int), d, y, rfl, rfl, hP5, by omega, by omega, hseq, hy, ?_⟩
    have hF6 : (upd H5 Pl (.lst (ps.eraseIdx d))) Fo = some (.lst fs) := by rw [upd_ne nPF.symm]; exact hF5
    refine ⟨Fo, fs, y, rfl, rfl, hF6, sz_lt (by omega), ?_⟩
    have ns1 := noList_stls
    have dp6 : DpAll K (upd H5 Pl (.lst (ps.eraseIdx d))) (ps.eraseIdx d) ((as.eraseIdx d).map stlD) := by
      refine DpAll.lst hP5 (ns1 _) ?_
      rw [map_erase]
      exact DpAll.erase d (DpAll.up (e4.trans e5) dp3)
    have df6 : DpAll K (upd H5 Pl (.lst (ps.eraseIdx d))) (fs ++ [y]) ((bs ++ [st]).map stlD) := by
      refine DpAll.lst hP5 (ns1 _) ?_
      rw [List.map_append]
      exact DpAll.snoc (DpAll.up (e4.trans e5) df3) dy
    refine ⟨as.length - 1, by omega, as.eraseIdx d, bs ++ [st], ps.eraseIdx d, fs ++ [y], rfl, Ex.mut (Ex.mut ((ex3.trans e4).trans e5) nPH) nFH, ?_, upd_same, DpAll.lst hF6 (ns1 _) dp6, DpAll.lst hF6 (ns1 _) df6, ?_, ?_⟩
    · rw [upd_ne nPF]
      exact upd_same
    · have h1 := erase_perm hst
      have h2 : (bs ++ [st] ++ as.eraseIdx d).Perm (bs ++ as) := by
        rw [List.append_assoc]
        exact List.Perm.append_left bs h1
      exact h2.trans pm3
    · rw [List.length_eraseIdx_of_lt hd]
  · have h0 : as = [] := by
      have := of_decide_eq_false hb
      exact List.eq_nil_of_length_eq_zero (by omega)
    subst h0
    refine p_ret (ep_vv rfl) fun v5 H5 e5 p5 => ?_
    obtain rfl : v5 = V.ref Fo := p5
    rw [List.append_nil] at pm3
    exact k Fo fs bs H5 ((ex3.trans e4).trans e5) nFH (e5 _ _ (e4 _ _ hF3)) (DpAll.up (e4.trans e5) df3) pm3
end
end K43
set_option Elab.async false
set_option linter.all false
set_option maxRecDepth 100000
set_option maxHeartbeats 4000000
set_option pp.maxSteps 800
/-! k43, part FK: _law_stalls. -/
namespace K43
open PySem PySem.Spec L2 Evl C8
/-- some m stalls of a web of n wares -/
def pStls (K : PySem.W.Frag) (n m : Nat) : PD := ⟨fun v H => ∃ ss : List Stl, ss.length = m ∧ (∀ s ∈ ss, s.Ok n) ∧ (pD K (.list (ss.map stlD))).p v H, fun e ⟨ss, h1, h2, h3⟩ => ⟨ss, h1, h2, PD.up _ e h3⟩⟩
def pShuf (K : PySem.W.Frag) (ss : List Stl) : PD := ⟨fun v H => ∃ ss' : List Stl, ss'.Perm ss ∧ (pD K (.list (ss'.map stlD))).p v H, fun e ⟨ss, h1, h2⟩ => ⟨ss, h1, PD.up _ e h2⟩⟩
def pBo : PD := ⟨fun v _ => ∃ b, v = .bl b, fun _ h => h⟩
/-- two wares, apart -/
def pPr (K : PySem.W.Frag) (k : Nat) : PD := ⟨fun v H => ∃ t d, d ≤ k ∧ v = .ref t ∧ SqT K H t [.int ((k + 1 : Nat) : Int), .int (d : Nat)], fun e ⟨t, d, h1, h2, h3⟩ => ⟨t, d, h1, h2, ex_t e h3⟩⟩
theorem stl_ok {n u v : Nat} {r q : Rat} (hu : u < n) (hv : v < n) (hne : u ≠ v) (hr0 : 0 < r) (hr : Sz 3 r) (hq0 : 0 < q) (hq : Sz 50 q) : Stl.Ok n ⟨u, v, r * q, r / q, r⟩ where
  hu := hu
  hv := hv
  ne := hne
  a0 := Rat.mul_pos hr0 hq0
  b0 := by
    show 0 < r / q
    rw [Rat.div_def]
    exact Rat.mul_pos hr0 (Rat.inv_pos.mpr hq0)
  r0 := hr0
  eq := by
    show r * q * (r / q) = r * r
    have hne : q ≠ 0 := fun z => by rw [z] at hq0; exact absurd hq0 (by decide)
    rw [Rat.div_def, Rat.mul_assoc, ← Rat.mul_assoc q, Rat.mul_comm q r, Rat.mul_assoc r q, Rat.mul_inv_cancel q hne, Rat.mul_one]
  sa := (sz_mul hr hq).mono (by decide)
  sb := (sz_div hr hq hq0).mono (by decide)
  sr := hr.mono (by decide)
section
variable {P : Program} {w : World} {K : PySem.W.Frag} {mg : Str → Option Value} {base : Heap} {cE cW cT : Addr} {σ : L2.St} {H : Hp} {te tx tl : TE}
theorem ep_some {cs : List Int} {E : XK} {ta : TA} (hcs : ∀ i ∈ cs, 0 ≤ i) (ha : EvPA ta σ H [pHand cs]) : EvP (tCall (spSome K) [] E ta) σ H (pSome K 3) := ep_callS ha (spp (α := List Int) cs hcs)
theorem ep_stall {cs : List Int} {u v : Nat} {q : Rat} {E : XK} {ta : TA} (hcs : ∀ i ∈ cs, 0 ≤ i) (h0 : 0 < q) (hs : Sz 50 q) (ha : EvPA ta σ H [pHand cs, pI (u : Int), pI (v : Int), pD K (ratD q)]) : EvP (tCall (spStall K) [] E ta) σ H (pStl K u v q) := ep_callS ha (spp (α := StlA) ⟨cs, u, v, q⟩ ⟨hcs, h0, hs⟩)
theorem ep_shuf {cs : List Int} {ss : List Stl} {E : XK} {ta : TA} (hcs : ∀ i ∈ cs, 0 ≤ i) (hl : ss.length ≤ 20) (ha : EvPA ta σ H [pHand cs, pD K (.list (ss.map stlD))]) : EvP (tCall (spShuf K) [] E ta) σ H (pShuf K ss) := fun H1 e Q q =>
  ha H1 e _ fun vs H2 e2 ps => by
    obtain ⟨v1, _, rfl, p1, v2, _, rfl, p2, er⟩ := ps
    cases er
    obtain ⟨l, xs, rfl, _, _⟩ := Dp.lst_inv (show Dp K H2 v2 (.list (ss.map stlD)) from p2)
    exact ⟨cs, v1, l, ss, hcs, rfl, p1, p2, hl, fun a ys ss' H' e3 _ h2 h3 h4 => q _ _ (e2.trans e3) ⟨ss', h4, .lst (SqL.of h2) h3⟩⟩
theorem st_Some {k : Nat} : (pSome K k).St := ⟨fun h ⟨q, h1, h2, h3⟩ => ⟨q, h1, h2, (st_D (noList_rat q)).st h h3⟩⟩
theorem somes_D : ∀ {n : Nat} {xs : List V} {H : Hp}, Alls ((List.range n).map fun _ => pSome K 3) xs H → ∃ rs : List Rat, rs.length = n ∧ (∀ r ∈ rs, 0 < r ∧ Sz 3 r) ∧ DpAll K H xs (rs.map ratD) := by
  intro n
  have key : ∀ (l : List Nat) (xs : List V) (H : Hp), Alls (l.map fun _ => pSome K 3) xs H → ∃ rs : List Rat, rs.length = l.length ∧ (∀ r ∈ rs, 0 < r ∧ Sz 3 r) ∧ DpAll K H xs (rs.map ratD) := by
    intro l
    induction l with
    | nil => intro xs H h; cases h; exact ⟨[], rfl, by simp, .nil⟩
    | cons x l ih =>
      rintro xs H ⟨y, r, rfl, ⟨q, h1, h2, h3⟩, ht⟩
      obtain ⟨rs, g1, g2, g3⟩ := ih r H ht
      refine ⟨q :: rs, by simp [g1], fun z hz => ?_, .cons h3 g3⟩
      rcases List.mem_cons.mp hz with rfl | hz
      · exact ⟨h1, h2⟩
      · exact g2 z hz
  intro xs H h
  have := key (List.range n) xs H h
  rwa [List.length_range] at this
theorem rp_drB {g : Int → Int → Bool} {m : Nat} {j : Int} : RP (rI0 fun i j => .bl (g i j)) (pDr m) (pI j) H pBo := fun x y H1 _ p p' Q q => by
  obtain ⟨k, _, rfl⟩ := p
  obtain rfl : y = V.int j := p'
  exact ⟨k, j, rfl, rfl, q _ H1 (Ex.refl H1) ⟨_, rfl⟩⟩
def pSh (c : Int) (m : Nat) : PD := ⟨fun v _ => ∃ k : Nat, k < m ∧ v = .int (c + (k : Int)), fun _ h => h⟩
theorem rp_sh {c : Int} {m : Nat} : RP (rI0 fun i j => .int (i + j)) (pI c) (pDr m) H (pSh c m) := fun x y H1 _ p p' Q q => by
  obtain rfl : x = V.int c := p
  obtain ⟨k, hk, rfl⟩ := p'
  exact ⟨c, k, rfl, rfl, q _ H1 (Ex.refl H1) ⟨k, hk, rfl⟩⟩
theorem cp_intG {P : PD} (hP : ∀ v H, P.p v H → ∃ i, v = .int i) : CP (fun xs H Q => (∃ i, xs = [.int i] ∧ Q (.int i) H) ∨ ∃ k, xs = [.bl k] ∧ Q (.int (if k then 1 else 0)) H) [P] H P := fun vs H1 _ ps Q q => by
  obtain ⟨v, r, rfl, p, e⟩ := ps
  cases e
  obtain ⟨i, rfl⟩ := hP _ _ p
  exact .inl ⟨i, rfl, q _ H1 (Ex.refl H1) p⟩
/-- some number below n, but not u -/
def pNe (n u : Nat) : PD := ⟨fun v _ => ∃ d : Nat, d < n ∧ d ≠ u ∧ v = .int (d : Nat), fun _ h => h⟩
theorem rp_ne {n u : Nat} (hu : u < n) : RP (rI (fun _ j => 0 < j) fun i j => .int (i % j)) (pSh ((u : Int) + 1) (n - 1)) (pI (n : Int)) H (pNe n u) := fun x y H1 _ p p' Q q => by
  obtain ⟨k, hk, rfl⟩ := p
  obtain rfl : y = V.int (n : Int) := p'
  refine ⟨_, _, rfl, rfl, (show (0 : Int) < (n : Int) by omega), q _ H1 (Ex.refl H1) ⟨(u + 1 + k) % n, Nat.mod_lt _ (by omega), ?_, ?_⟩⟩
  · by_cases h : u + 1 + k < n
    · rw [Nat.mod_eq_of_lt h]; omega
    · rw [Nat.mod_eq_sub_mod (by omega), Nat.mod_eq_of_lt (by omega)]; omega
  · have : (u : Int) + 1 + (k : Int) = ((u + 1 + k : Nat) : Int) := by omega
    rw [this]
    rfl
/-- _law_one + 1 + a draw, cut to the wares -/
theorem ep_other {cs : List Int} {n u : Nat} {E : XK} {t1 t2 t3 : TE} (hcs : ∀ i ∈ cs, 0 ≤ i) (hn2 : 2 ≤ n) (hn8 : n ≤ 8) (hu : u < n) (h1 : EvP t1 σ H (pI (u : Int))) (h2 : EvP t2 σ H (pHand cs)) (h3 : EvP t3 σ H (pI (n : Int))) :
    EvP (tOp (rI (fun _ j => 0 < j) fun i j => .int (i % j)) (tCB (fun xs H Q => (∃ i, xs = [.int i] ∧ Q (.int i) H) ∨ ∃ k, xs = [.bl k] ∧ Q (.int (if k then 1 else 0)) H) (tCons (tOp (rI0 fun i j => .int (i + j)) (tOp (rI0 fun i j => .int (i + j)) t1 (tC (.int 1))) (tCall spDraw [] E (tCons t2 (tCons (tOp (rI0 fun i j => .int (i - j)) t3 (tC (.int 1))) tNil)))) tNil)) t3) σ H (pNe n u) :=
  ep_op (ep_cb (ea_cons (ep_op (ep_op h1 ep_i rp_I0) (ep_draw (m := n - 1) hcs (by omega) (by omega) (ea_cons h2 (ea_cons (ep_iis (ep_op h3 ep_i rp_I0) (show (n : Int) - 1 = ((n - 1 : Nat) : Int) by omega)) ea_nil))) rp_sh) ea_nil) (cp_intG fun v H p => by
    obtain ⟨k, _, rfl⟩ := p
    exact ⟨_, rfl⟩)) h3 (rp_ne hu)
theorem noList_rats : ∀ rs : List Rat, noListAll (rs.map ratD) = true
  | [] => by simp [noListAll]
  | r :: rs => by rw [List.map_cons, noListAll, noList_rats rs, noList_rat]; rfl
theorem rp_eqDr {m : Nat} {j : Int} : RP rEq (pDr m) (pI j) H pBo := fun x y H1 _ p p' Q q => by
  obtain ⟨k, _, rfl⟩ := p
  obtain rfl : y = V.int j := p'
  exact ⟨rfl, q _ H1 (Ex.refl H1) ⟨_, rfl⟩⟩
variable {D : Ends} {tu tz : TS} {g : TG}
theorem s_whenE (h : EvP te σ H pBo) (h1 : ∀ H1, Ex H H1 → tu D σ H1) (h2 : ∀ H1, Ex H H1 → D.nx σ H1) : tIfS (tTest te) tu tNext D σ H := h H (Ex.refl H) _ fun v H1 e1 p => by
  obtain ⟨b, rfl⟩ := p
  refine ⟨b, rfl, ?_⟩
  cases b with
  | true => exact h1 H1 e1
  | false => exact h2 H1 e1
theorem q_asgG {P : PD} (h : EvP te σ H P) (k : ∀ v H1, Ex H H1 → P.p v H1 → g v σ H1 fun σ' H' => tz D σ' H') : tSeq (tAsg te g) tz D σ H := h H (Ex.refl H) _ fun v H1 e p => k v H1 e p
structure StsA where
  cs : List Int
  n : Nat
  m : Nat
  way : Int
def spStalls (K : PySem.W.Frag) : Sp := spF (fun (a : StsA) => [pHand a.cs, pI a.n, pI a.m, pI a.way]) (fun a => pStls K a.n a.m) (fun a => (∀ i ∈ a.cs, 0 ≤ i) ∧ 2 ≤ a.n ∧ a.n ≤ 8 ∧ a.m ≤ 16)
theorem ok53 (T : Txt K mg cE cW) : Cal P w K mg base 5 "_law_stalls" (spStalls K) [] := by
  have sc0 : FnScope ["_law_hand_here", "_law_wares", "_law_many_here", "_law_way", "_law_scales", "_law_hung", "_law_odd", "_law_found", "_law_k", "_law_one", "_law_other", "_law_quotient", "_law_ware"] ["_law_hand_here", "_law_wares", "_law_many_here", "_law_way"] (defScope (top 53)) := ⟨rfl, rfl, rfl, by decide +kernel, rfl, by decide +kernel, by decide +kernel⟩
  refine T.d53.cal sc0 (spF_len fun _ => rfl) fun cdv f A outer s H vs Q E hr h => ?_
  obtain ⟨⟨cs, n, m, way⟩, ⟨hcs, hn2, hn8, hm16⟩, ⟨v0, _, rfl, ph, v1, _, rfl, p1, v2, _, rfl, p2, v3, _, rfl, p3, e⟩, k⟩ := h
  cases e
  cases p1
  cases p2
  cases p3
  replace ph : (pHand cs).p v0 H := ph
  replace hcs : ∀ i ∈ cs, 0 ≤ i := hcs
  replace hn2 : 2 ≤ n := hn2
  replace hn8 : n ≤ 8 := hn8
  replace hm16 : m ≤ 16 := hm16
  replace k : ∀ v' H', Ex H H' → (pStls K n m).p v' H' → Q v' H' := k
  refine ⟨_, pss_cons (ps_setLc (i := 4) (own := [("_law_ware", 12)]) (g := gName 12) (tt := tYes) (by rfl) sc0.nd rfl rfl (sw_true rfl rfl rfl (by decide +kernel)) (pi_range1 rfl T.b_range (pa_cons (pv 1) (pa_nil))) (blkOk_by (N := ["_law_hand_here", "_law_wares", "_law_many_here", "_law_way", "_law_scales", "_law_hung", "_law_odd", "_law_found", "_law_k", "_law_one", "_law_other", "_law_quotient", "_law_ware"]) (sc := defScope (top 53)) (by decide +kernel)) (fun _ _ _ _ _ => pg_name (i := 12) sc0.nd rfl (.inl rfl)) (fun _ _ _ _ _ => pts_nil) (fun _ _ _ _ _ => pe_c (ok50 T) hr (by decide) rfl (pa_cons (pv 0) (pa_nil))))
    (pss_cons (ps_set (i := 5) sc0.nd rfl (.inl rfl) (pe_cmpR op_gt (pe_c (ok43 T) hr (by decide) rfl (pa_cons (pv 0) (pa_cons (pe_int) (pa_nil)))) (pe_int) (nomark _)))
    (pss_cons (ps_set (i := 6) sc0.nd rfl (.inl rfl) (pe_c (ok43 T) hr (by decide) rfl (pa_cons (pv 0) (pa_cons (pe_op op_add (pv 2) (pe_int)) (pa_nil)))))
    (pss_cons (ps_set (i := 7) sc0.nd rfl (.inl rfl) (pe_lst (pa_nil)))
    (pss_cons (ps_for PassesOwn.never rfl (pi_range1 rfl T.b_range (pa_cons (pe_op op_mul (pv 2) (pe_callTy call_int1 (by rfl) T.b_int (by decide +kernel) (pa_cons (pe_cmpR op_gt (pv 1) (pe_int) (nomark _)) (pa_nil)))) (pa_nil))) (pg_name (i := 8) sc0.nd rfl (.inl rfl)) (pss_cons (ps_set (i := 9) sc0.nd rfl (.inl rfl) (pe_c (ok43 T) hr (by decide) rfl (pa_cons (pv 0) (pa_cons (pv 1) (pa_nil)))))
    (pss_cons (ps_set (i := 10) sc0.nd rfl (.inl rfl) (pe_op op_mod (pe_callTy call_int1 (by rfl) T.b_int (by decide +kernel) (pa_cons (pe_op op_add (pe_op op_add (pv 9) (pe_int)) (pe_c (ok43 T) hr (by decide) rfl (pa_cons (pv 0) (pa_cons (pe_op op_sub (pv 1) (pe_int)) (pa_nil))))) (pa_nil))) (pv 1)))
    (Evl.pss_cut (ps_if (PW.pt (pw_and (pt_val (pv 5)) (pw_and1 (pt_cmpR op_lt (pe_op op_add (pv 8) (pe_int)) (pv 1) (nomark _))))) (pss_cons (ps_asg (pe_ix ix_list (pe_lst (pa_cons (pe_tup (pa_cons (pe_op op_add (pv 8) (pe_int)) (pa_cons (pe_c (ok43 T) hr (by decide) rfl (pa_cons (pv 0) (pa_cons (pe_op op_add (pv 8) (pe_int)) (pa_nil)))) (pa_nil)))) (pa_cons (pe_tup (pa_cons (pe_op op_add (pv 8) (pe_int)) (pa_cons (pv 8) (pa_nil)))) (pa_nil)))) (pe_c (ok43 T) hr (by decide) rfl (pa_cons (pv 0) (pa_cons (pe_int) (pa_nil)))) (fun _ _ => rfl)) (pg_tup rfl (pgs_cons (pg_name (i := 9) sc0.nd rfl (.inl rfl)) (pgs_cons (pg_name (i := 10) sc0.nd rfl (.inl rfl)) (pgs_nil)))))
    (pss_one (ps_if (pt_cmpR op_eq (pe_c (ok43 T) hr (by decide) rfl (pa_cons (pv 0) (pa_cons (pe_int) (pa_nil)))) (pe_int) (nomark _)) (pss_one (ps_par (i := 9) (j := 10) (by rfl) sc0.nd rfl rfl (by decide) rfl rfl (pa_cons (pv 10) (pa_cons (pv 9) (pa_nil))) (by rfl))) (pss_nil)))) (pss_nil))
    (pss_cons (ps_set (i := 11) sc0.nd rfl (.inl rfl) (pe_c (ok49 T) hr (by decide) rfl (pa_cons (pe_ix ix_list (pv 4) (pv 10) (fun _ _ => rfl)) (pa_cons (pe_ix ix_list (pv 4) (pv 9) (fun _ _ => rfl)) (pa_nil)))))
    (Evl.pss_cut (ps_if (PW.pt (pw_or (pt_cmpR op_eq (pv 3) (pe_int) (nomark _)) (pw_or1 (PW.pt (pw_and (pt_cmpR op_eq (pv 3) (pe_int) (nomark _)) (pw_and1 (pt_cmpR op_eq (pv 8) (pv 6) (nomark _)))))))) (pss_one (ps_set (i := 11) sc0.nd rfl (.inl rfl) (pe_c (ok50 T) hr (by decide) rfl (pa_cons (pv 0) (pa_nil))))) (pss_nil))
    (pss_one (ps_expr (pe_bm PySem.F.plainAttrs_list PySem.F.slot_list_append PySem.F.type_list_append mt_append (pv 7) (pa_cons (pe_c (ok52 T) hr (by decide) rfl (pa_cons (pv 0) (pa_cons (pv 9) (pa_cons (pv 10) (pa_cons (pv 11) (pa_nil)))))) (pa_nil)))))))))))
    (pss_one (ps_ret (pe_c (ok51 T) hr (by decide) rfl (pa_cons (pv 0) (pa_cons (pv 7) (pa_nil)))))))))), ?_⟩
  -- scales
  refine p_asg (ep_lcRaN (n := n) (res := fun _ => pSome K 3) (ea_cons (ep_vi rfl) ea_nil) (by omega) (fun _ => rfl) (fun i hi H1 e1 => ep_some hcs (ea_cons (ep_var rfl (PD.up _ e1 ph)) ea_nil)) (fun i hi => st_Some)) fun v4 H1 e1 p4 => ?_
  obtain ⟨S, qs, rfl, nS, hS, aS⟩ := p4
  obtain ⟨rs, lrs, hrs, drs⟩ := somes_D aS
  refine p_asg (P := pBo) (ep_op (ep_draw (m := 3) hcs (by decide) (by decide) (ea_cons (ep_var rfl (PD.up _ e1 ph)) (ea_cons ep_i ea_nil))) ep_i rp_drB) fun v5 H2 e2 p5 => ?_
  obtain ⟨hung, rfl⟩ := p5
  have e02 := e1.trans e2
  refine p_asg (ep_draw (m := m + 1) hcs (by omega) (by omega) (ea_cons (ep_var rfl (PD.up _ e02 ph)) (ea_cons ((ep_op (ep_vi rfl) ep_i rp_I0).imp fun _ _ _ p => p) ea_nil))) fun v6 H3 e3 p6 => ?_
  obtain ⟨odd, _, rfl⟩ := p6
  have e03 := e02.trans e3
  refine p_asg (ep_lstN (Ps := []) ea_nil (by simp)) fun v7 H4 e4 p7 => ?_
  obtain ⟨Fo, _, rfl, nF, hF, rfl⟩ := p7
  have e04 := e03.trans e4
  have nSF : S ≠ Fo := ne_of_none (e3 _ _ (e2 _ _ hS)) nF
  have nFH : H Fo = none := fresh_back e03 nF
  have hmb : -(2 ^ 64) < (m : Int) ∧ (m : Int) < 2 ^ 64 := ⟨by omega, by omega⟩
  have hmn : (m : Int) * (if decide ((1 : Int) < (n : Int)) = true then 1 else 0) = (m : Int) := by
    rw [decide_eq_true (by omega), if_pos rfl, Int.mul_one]
  refine p_forR (n := m) (ea_cons (ep_iis (ep_op (ep_vi rfl) (ep_cb (ea_cons (ep_op (ep_vi rfl) ep_i rp_I0b) ea_nil) cp_intB) (rp_I (cmulL hmb))) hmn) ea_nil) (by omega)
    (fun i σ' H' => ∃ fs ss a8 a9 a10 a11, σ' = [some v0, some (.int (n : Nat)), some (.int (m : Nat)), some (.int way), some (.ref S), some (.bl hung), some (.int (odd : Nat)), some (.ref Fo), a8, a9, a10, a11, none] ∧ Ex H H' ∧ H' S = some (.lst qs) ∧ DpAll K H' qs (rs.map ratD) ∧ H' Fo = some (.lst fs) ∧ DpAll K H' fs (ss.map stlD) ∧ ss.length = i ∧ ∀ s ∈ ss, s.Ok n)
    (fun H5 e5 => ⟨[], [], none, none, none, none, rfl, e04.trans e5, (((e2.trans e3).trans e4).trans e5) _ _ hS, DpAll.up (((e2.trans e3).trans e4).trans e5) drs, e5 _ _ hF, .nil, rfl, by simp⟩) ?_ ?_
  · rintro i σ' H5 hi ⟨fs, ss, a8, a9, a10, a11, rfl, ex5, hS5, dS5, hF5, dF5, hl5, hok5⟩
    have ph5 := PD.up _ ex5 ph
    refine p_asg (ep_draw (m := n) hcs (by omega) (by omega) (ea_cons (ep_var rfl ph5) (ea_cons (ep_vi rfl) ea_nil))) fun v9 H6 e6 p9 => ?_
    obtain ⟨u, hu, rfl⟩ := p9
    have ph6 := PD.up _ e6 ph5
    refine p_asg (P := pNe n u) (ep_other hcs hn2 hn8 hu (ep_vi rfl) (ep_var rfl ph6) (ep_vi rfl)) fun v10 H7 e7 p10 => ?_
    obtain ⟨x, hx, hxu, rfl⟩ := p10
    have ph7 := PD.up _ e7 ph6
    have e57 := e6.trans e7
    refine Evl.q_cut (M := fun σ' H' => ∃ u x : Nat, u < n ∧ x < n ∧ u ≠ x ∧ Ex H5 H' ∧ σ' = [some v0, some (.int (n : Nat)), some (.int (m : Nat)), some (.int way), some (.ref S), some (.bl hung), some (.int (odd : Nat)), some (.ref Fo), some (.int (i : Nat)), some (.int (u : Nat)), some (.int (x : Nat)), a11, none]) ?_ ?_
    · refine s_when (b := hung && decide ((i : Int) + 1 < (n : Int))) (et_and (pt_B (ep_var rfl rfl)) fun _ => pt_test (ep_op (ep_op (ep_vi rfl) ep_i rp_I0) (ep_vi rfl) rp_I0b)) (fun hb H8 e8 => ?_) (fun hb H8 e8 => ⟨u, x, hu, hx, fun z => hxu z.symm, e57.trans e8, rfl⟩)
      · rw [Bool.and_eq_true, decide_eq_true_iff] at hb
        have hin : i + 1 < n := by omega
        have ph8 := PD.up _ e8 ph7
        have ei : (i : Int) + 1 = ((i + 1 : Nat) : Int) := by omega
        refine q_asgG (P := pPr K i) ?_ fun v9 H9 e9 p9 => ?_
        · refine ep_op (P := pL K [pPr K i, pPr K i]) (P' := pDr 2) ((ep_lst (K := K) (Ps := [pT K [pI ((i : Int) + 1), pDr (i + 1)], pT K [pI ((i : Int) + 1), pI (i : Int)]]) (ea_cons (ep_tup (ea_cons (ep_op (ep_vi rfl) ep_i rp_I0) (ea_cons (ep_draw (m := i + 1) hcs (by omega) (by omega) (ea_cons (ep_var rfl ph8) (ea_cons (ep_iis (ep_op (ep_vi rfl) ep_i rp_I0) ei) ea_nil))) ea_nil)) (by simp)) (ea_cons (ep_tup (ea_cons (ep_op (ep_vi rfl) ep_i rp_I0) (ea_cons (ep_vi rfl) ea_nil)) (by simp)) ea_nil)) (by simp)).imp fun v' H' e' p' => ?g2) (ep_draw (m := 2) hcs (by decide) (by decide) (ea_cons (ep_var rfl ph8) (ea_cons ep_i ea_nil))) fun a b H9 e9 pa pb Q2 q2 => ?g3
          case g2 =>
            obtain ⟨la, xs, rfl, hl, y1, _, rfl, ⟨t1, us, rfl, ht1, z1, _, rfl, pz1, z2, _, rfl, ⟨d, hd, rfl⟩, er1⟩, y2, _, rfl, ⟨t2, us2, rfl, ht2, z3, _, rfl, pz3, z4, _, rfl, pz4, er2⟩, er⟩ := p'
            cases er
            cases er1
            cases er2
            cases pz1
            cases pz3
            cases pz4
            refine ⟨la, _, rfl, hl, _, _, rfl, ⟨t1, d, by omega, rfl, ?_⟩, _, _, rfl, ⟨t2, i, Nat.le_refl _, rfl, ?_⟩, rfl⟩
            · rw [ei] at ht1; exact ht1
            · rw [ei] at ht2; exact ht2
          case g3 =>
            obtain ⟨d, hd, rfl⟩ := pb
            have h2 : ([pPr K i, pPr K i] : List PD)[d]? = some (pPr K i) := by
              match d, hd with
              | 0, _ => rfl
              | 1, _ => rfl
            exact (rp_ixLP (H := H9) h2) a _ H9 (Ex.refl _) pa rfl Q2 q2
        · obtain ⟨t, d, hd, rfl, ht⟩ := p9
          refine ⟨t, _, rfl, ht, rfl, _, _, rfl, _, _, rfl, rfl, ?_⟩
          have ph9 := PD.up _ e9 ph8
          refine s_whenE (ep_op (P := pDr 2) (P' := pI 0) (R := pBo) (ep_draw (m := 2) hcs (by decide) (by decide) (ea_cons (ep_var rfl ph9) (ea_cons ep_i ea_nil))) ep_i rp_eqDr) (fun H10 e10 => ?_) (fun H10 e10 => ?_)
          · refine p_par1 (ea_cons (ep_vi (n := (d : Int)) rfl) (ea_cons (ep_vi (n := ((i + 1 : Nat) : Int)) rfl) ea_nil)) fun w1 w2 H11 e11 q1 q2 => ?_
            cases q1
            cases q2
            exact ⟨d, i + 1, by omega, hin, by omega, (((e57.trans e8).trans e9).trans e10).trans e11, rfl⟩
          · exact ⟨i + 1, d, hin, by omega, by omega, ((e57.trans e8).trans e9).trans e10, rfl⟩
    · rintro σ' H8 ⟨u, x, hu, hx, hux, e58, rfl⟩
      have ex8 := ex5.trans e58
      have dS8 := DpAll.up e58 dS5
      have hS8 := e58 _ _ hS5
      obtain ⟨qx, hqx⟩ : ∃ q, rs[x]? = some q := ⟨rs[x]'(by omega), by simp [show x < rs.length by omega]⟩
      obtain ⟨qu, hqu⟩ : ∃ q, rs[u]? = some q := ⟨rs[u]'(by omega), by simp [show u < rs.length by omega]⟩
      have rx := hrs qx (List.mem_of_getElem? hqx)
      have ru := hrs qu (List.mem_of_getElem? hqu)
      have itm : ∀ {j : Nat} {q : Rat} {σ : L2.St} {t : TE}, σ[4]? = some (some (.ref S)) → rs[j]? = some q → EvP t σ H8 (pI (j : Int)) → EvP (tOp (rIxL K) (tVar 4) t) σ H8 (pD K (ratD q)) := fun {j q σ t} hv hq ht =>
        ep_op (ep_var hv (show (pD K (.list (rs.map ratD))).p (.ref S) H8 from .lst (SqL.of hS8) dS8)) ht (rp_ixL (i := j) (by rw [List.getElem?_map, hq]; rfl))
      refine p_asg (P := pD K (ratD (qx / qu))) (ep_callS (ea_cons (itm rfl hqx (ep_vi rfl)) (ea_cons (itm rfl hqu (ep_vi rfl)) ea_nil)) (spp (α := Rat × Rat) (qx, qu) ⟨rx.2.mono (by decide), ru.2.mono (by decide), ru.1⟩)) fun v11 H9 e9 p11 => ?_
      have hq0 : 0 < qx / qu := by
        rw [Rat.div_def]
        exact Rat.mul_pos rx.1 (Rat.inv_pos.mpr ru.1)
      have hqs : Sz 50 (qx / qu) := (sz_div rx.2 ru.2 ru.1).mono (by decide)
      refine Evl.q_cut (M := fun σ' H' => ∃ (q : Rat) (v11 : V), 0 < q ∧ Sz 50 q ∧ (pD K (ratD q)).p v11 H' ∧ Ex H8 H' ∧ σ' = [some v0, some (.int (n : Nat)), some (.int (m : Nat)), some (.int way), some (.ref S), some (.bl hung), some (.int (odd : Nat)), some (.ref Fo), some (.int (i : Nat)), some (.int (u : Nat)), some (.int (x : Nat)), some v11, none]) ?_ ?_
      · refine s_when (et_or (pt_test (ep_op (ep_vi rfl) ep_i rp_eqI)) fun _ => et_and (pt_test (ep_op (ep_vi rfl) ep_i rp_eqI)) fun _ => pt_test (ep_op (ep_vi (n := (i : Int)) rfl) (ep_vi (n := (odd : Int)) rfl) rp_eqI)) (fun hb H10 e10 => ?_) (fun hb H10 e10 => ⟨_, _, hq0, hqs, PD.up _ e10 p11, e9.trans e10, rfl⟩)
        refine p_asg1 (P := pSome K 3) (ep_some hcs (ea_cons (ep_var rfl (PD.up _ ((ex8.trans e9).trans e10) ph)) ea_nil)) fun v12 H11 e11 p12 => ?_
        obtain ⟨q, g1, g2, g3⟩ := p12
        exact ⟨q, v12, g1, g2.mono (by decide), g3, (e9.trans e10).trans e11, rfl⟩
      · rintro σ' H10 ⟨q, v12, hq0, hqs, p12, e10, rfl⟩
        have ex10 := ex8.trans e10
        have hF10 := e10 _ _ (e58 _ _ hF5)
        have lf := DpAll.len dF5
        rw [List.length_map] at lf
        refine p_app1 (P := pStl K u x q) hF10 (ep_vv rfl) (ep_stall hcs hq0 hqs (ea_cons (ep_var rfl (PD.up _ ex10 ph)) (ea_cons (ep_vi rfl) (ea_cons (ep_vi rfl) (ea_cons (ep_var rfl p12) ea_nil))))) (by omega) fun v13 H11 e11 p13 => ?_
        obtain ⟨r, hr0, hr3, dst⟩ := p13
        have hF11 := e11 _ _ hF10
        refine ⟨fs ++ [v13], ss ++ [⟨u, x, r * q, r / q, r⟩], _, _, _, _, rfl, Ex.mut (ex10.trans e11) nFH, ?_, ?_, upd_same, ?_, ?_, ?_⟩
        · rw [upd_ne nSF]
          exact e11 _ _ (e10 _ _ hS8)
        · refine DpAll.lst hF11 ?_ (DpAll.up (e10.trans e11) dS8)
          exact noList_rats rs
        · refine DpAll.lst hF11 (noList_stls _) ?_
          rw [List.map_append]
          exact DpAll.snoc (DpAll.up ((e58.trans e10).trans e11) dF5) dst
        · rw [List.length_append, List.length_singleton, hl5]
        · intro s hs
          rcases List.mem_append.mp hs with h | h
          · exact hok5 s h
          · rw [List.mem_singleton.mp h]
            exact stl_ok hu hx hux hr0 hr3 hq0 hqs
  · rintro σ' H5 ⟨fs, ss, a8, a9, a10, a11, rfl, ex5, hS5, dS5, hF5, dF5, hl5, hok5⟩
    refine p_ret (ep_shuf hcs (by omega) (ea_cons (ep_var rfl (PD.up _ ex5 ph)) (ea_cons (ep_var rfl (show (pD K (.list (ss.map stlD))).p (.ref Fo) H5 from .lst (SqL.of hF5) dF5)) ea_nil))) fun v6 H6 e6 p6 => k _ _ (ex5.trans e6) ?_
    obtain ⟨ss', h1, h2⟩ := p6
    exact ⟨ss', by rw [h1.length_eq, hl5], fun s hs => hok5 s (h1.mem_iff.mp hs), h2⟩
end
end K43
set_option Elab.async false
set_option linter.all false
set_option maxRecDepth 100000
set_option maxHeartbeats 4000000
set_option pp.maxSteps 800
/-! k43, part FL: _law_turnings, _law_least, _law_walked. -/
namespace K43
open PySem PySem.Spec L2 Evl C8
section
variable {K : PySem.W.Frag} {σ : L2.St} {H H' : Hp} {ta tb te tl tx : TE} {t tt : TT} {x y z v : V} {r : R2} {P P' R : PD} {β : Type}
theorem ep_lcTFN {bs : List β} {src res : β → PD} {p : β → Bool} {j : Nat} {vs : List Nat} (h : EvP tl σ H (pT K (bs.map src))) (hz : bs.length ≤ 10000) (hw : ∀ x, wipe ((wipe σ vs).set j (some x)) vs = wipe σ vs)
    (ht : ∀ b ∈ bs, ∀ x H1, Ex H H1 → (src b).p x H1 → EvT tt ((wipe σ vs).set j (some x)) H1 (p b)) (he : ∀ b ∈ bs, p b = true → ∀ x H1, Ex H H1 → (src b).p x H1 → EvP te ((wipe σ vs).set j (some x)) H1 (res b)) (hS : ∀ b ∈ bs, p b = true → (res b).St) :
    EvP (tLc (iTup K tl) (gName j) tt te vs) σ H (pLN H ((bs.filter p).map res)) := fun H0 e Q q => h H0 e _ fun v H1 e1 pv => by
  obtain ⟨a, xs, rfl, hx, hA⟩ := pv
  have hl : xs.length = bs.length := by rw [Alls.len hA, List.length_map]
  refine ⟨a, rfl, ⟨xs, hx⟩, fun D hD => lc_tup (xs := xs) (fun i H' => Cp H1 D (((bs.take i).filter p).map res) H') ⟨hD, Ex.new hD, [], upd_same, by rw [List.take_zero]; rfl⟩ (fun i H' _ c => ex_t c.2.1 hx) (fun i x H' hi c => ⟨hw x, ?_⟩) fun H' c => ?_⟩
  · obtain ⟨P, hP, px⟩ := Alls.getv hA hi
    rw [List.getElem?_map] at hP
    cases eb : bs[i]? with
    | none => rw [eb] at hP; cases hP
    | some b =>
      rw [eb] at hP
      cases hP
      have hb := List.mem_of_getElem? eb
      have ex : Ex H H' := (e.trans e1).trans c.2.1
      have px' := PD.up _ c.2.1 px
      rw [take_map_filter eb]
      exact cp_turn c (len_tf hz) (ht b hb x H' ex px') (fun q => he b hb q x H' ex px') (fun q => hS b hb q) (mem_tf hS)
  · rw [hl, List.take_length] at c
    exact q _ H' (e1.trans c.2.1) (c.retN (e.trans e1))
theorem ep_lcTaN {bs : List β} {src res : β → PD} {j : Nat} {vs : List Nat} (h : EvP tl σ H (pT K (bs.map src))) (hz : bs.length ≤ 10000) (hw : ∀ x, wipe ((wipe σ vs).set j (some x)) vs = wipe σ vs)
    (he : ∀ b ∈ bs, ∀ x H1, Ex H H1 → (src b).p x H1 → EvP te ((wipe σ vs).set j (some x)) H1 (res b)) (hS : ∀ b ∈ bs, (res b).St) :
    EvP (tLc (iTup K tl) (gName j) tYes te vs) σ H (pLN H (bs.map res)) := by
  have := ep_lcTFN (p := fun _ => true) h hz hw (fun b hb x H1 _ _ => et_yes) (fun b hb _ => he b hb) (fun b hb _ => hS b hb)
  rwa [List.filter_eq_self.mpr fun _ _ => rfl] at this
theorem alls_app {H : Hp} : ∀ {Ps Ps' : List PD} {xs ys : List V}, Alls Ps xs H → Alls Ps' ys H → Alls (Ps ++ Ps') (xs ++ ys) H
  | [], _, _, _, h, h' => by cases h; exact h'
  | _ :: _, _, _, _, ⟨v, r, e, p, t⟩, h' => by subst e; exact ⟨v, _, rfl, p, alls_app t h'⟩
end

section
variable {K : PySem.W.Frag} {σ : L2.St} {H H0 H0' : Hp} {ta tb te tl : TE}
theorem rp_cat {Ps Ps' : List PD} (hl : Ps.length + Ps'.length ≤ 100000) : RP rCat (pLN H0 Ps) (pLN H0' Ps') H (pLN H (Ps ++ Ps')) := fun x y H1 e p p' Q q => by
  obtain ⟨a, xs, rfl, _, h1, h2⟩ := p
  obtain ⟨b, ys, rfl, _, h3, h4⟩ := p'
  have l1 := Alls.len h2
  have l2 := Alls.len h4
  refine ⟨a, b, xs, ys, rfl, rfl, h1, h3, sz_of (by omega), fun p hp => q _ _ (Ex.new hp) ⟨p, _, rfl, fresh_back e hp, upd_same, ?_⟩⟩
  have key : ∀ (Ps : List PD) (xs : List V), Alls Ps xs H1 → Alls (Ps ++ Ps') (xs ++ ys) (upd H1 p (.lst (xs ++ ys))) ∨ True := fun _ _ _ => .inr trivial
  exact alls_app (Alls.up (Ex.new hp) h2) (Alls.up (Ex.new hp) h4)
theorem ep_minL {x : Way} {ws : List Way} (h : EvP te σ H (pLN H0 ((x :: ws).map fun r => pD K (wayD r)))) : EvP (tCB (rMinW K) (tCons te tNil)) σ H (pD K (wayD (minW x ws))) := fun H1 e Q q => h H1 e _ fun v H2 e2 p => by
  obtain ⟨L, xs, rfl, _, hL, aL⟩ := p
  have e1 : ((x :: ws).map fun r => pD K (wayD r)) = ((x :: ws).map wayD).map (pD K) := by rw [List.map_map]; rfl
  rw [e1] at aL
  exact ⟨L, xs, x, ws, rfl, SqL.of hL, pT_pD aL, fun v _ d => q v H2 e2 d⟩
end
section
variable {P : Program} {w : World} {K : PySem.W.Frag} {mg : Str → Option Value} {base : Heap} {cE cW cT : Addr} {σ : L2.St} {H : Hp} {te tx tl : TE}
def spTurnings (K : PySem.W.Frag) : Sp := fun vs H Q _ => ∃ (r : Way) (v : V), r.length ≤ 100 ∧ vs = [v] ∧ (pD K (wayD r)).p v H ∧ ∀ v' H', Ex H H' → (pLN H ((turns r).map fun r => pD K (wayD r))).p v' H' → Q v' H'
theorem ok59 (T : Txt K mg cE cW) : Cal P w K mg base 1 "_law_turnings" (spTurnings K) [] := by
  have sc0 : FnScope ["_law_ring", "_law_k"] ["_law_ring"] (defScope (top 59)) := ⟨rfl, rfl, rfl, by decide +kernel, rfl, by decide +kernel, by decide +kernel⟩
  refine T.d59.cal sc0 (fun vs H Q E h => by obtain ⟨r, v, _, rfl, _⟩ := h; rfl) fun cdv f A outer s H vs Q E hr h => ?_
  obtain ⟨r, v, hl, rfl, pr, k⟩ := h
  refine ⟨_, pss_one (ps_ret (pe_lc (own := [("_law_k", 1)]) (g := gName 1) (by rfl) sc0.nd (pi_range1 rfl T.b_range (pa_cons (pe_callB (call_len_seq) (by rfl) T.b_len (by decide +kernel) (pa_cons (pv 0) (pa_nil))) (pa_nil))) (blkOk_by (N := ["_law_ring", "_law_k"]) (sc := defScope (top 59)) (by decide +kernel)) (fun _ _ _ _ _ => pg_name (i := 1) sc0.nd rfl (.inl rfl)) (fun _ _ _ _ _ => pts_nil) (fun _ _ _ _ _ => pe_op (op_catA : OpR _ _ (rCatA K)) (pe_slice (sl_tupA : SlR _ (rSlA K)) (pv 0) (po_some (pv 1)) po_none) (pe_slice (sl_tupA : SlR _ (rSlA K)) (pv 0) po_none (po_some (pv 1)))))), ?_⟩
  refine p_ret (P := pLN H ((List.range r.length).map fun k => pD K (wayD (r.drop k ++ r.take k)))) (ep_lcRaN (n := r.length) (ea_cons ((ep_cb (ea_cons (ep_var rfl (show (pD K (.tuple (r.map pairD))).p v H from pr)) ea_nil) cp_lenT).imp fun _ _ _ p => by rw [List.length_map] at p; exact p) ea_nil) (by omega) (fun _ => rfl) (fun i hi H1 e1 => ?_) (fun i hi => st_D (noList_way _))) fun v' H' e' p' => k v' H' e' ?_
  · exact ep_wayCat (ep_slFromW (n := i) (ep_var rfl (PD.up _ e1 pr)) (ep_vi rfl)) (ep_slToW (n := i) (ep_var rfl (PD.up _ e1 pr)) (ep_vi rfl)) (by rw [List.length_drop, List.length_take]; omega)
  · unfold turns
    rw [List.map_map]
    exact p'
theorem ep_turnings {r : Way} {E : XK} {ta : TA} (hl : r.length ≤ 100) (ha : EvPA ta σ H [pD K (wayD r)]) : EvP (tCall (spTurnings K) [] E ta) σ H (pLN H ((turns r).map fun r => pD K (wayD r))) := fun H1 e Q q =>
  ha H1 e _ fun vs H2 e2 ps => by
    obtain ⟨v1, _, rfl, p1, er⟩ := ps
    cases er
    refine ⟨r, v1, hl, rfl, p1, fun v' H' e3 h => q _ _ (e2.trans e3) ?_⟩
    obtain ⟨a, xs, h1, h2, h3⟩ := h
    exact ⟨a, xs, h1, fresh_back (e.trans e2) h2, h3⟩
/-- a stall of the list of stalls; the ware beside -/
theorem ep_stlL {ss : List Stl} {i : Nat} {s : Stl} {j : Nat} {v : V} (hv : σ[j]? = some (some v)) (ps : (pD K (.list (ss.map stlD))).p v H) (h : EvP tx σ H (pI (i : Nat))) (hs : ss[i]? = some s) : EvP (tOp (rIxL K) (tVar j) tx) σ H (pD K (stlD s)) :=
  ep_op (ep_var hv ps) h (rp_ixL (i := i) (stl_at hs))
theorem other_sum {s : Stl} (hne : s.u ≠ s.v) {b : Nat} (ht : s.touch b) : (s.u : Int) + (s.v : Int) - (b : Int) = (s.other b : Nat) := by
  unfold Stl.other
  rcases ht with h | h
  · rw [if_pos h]; omega
  · rw [if_neg fun z => hne (z.trans h.symm)]; omega
/-- every step of the way touches its ware -/
def Steps (ss : List Stl) (r : Way) : Prop := ∀ x ∈ r, ∃ s, ss[x.1]? = some s ∧ s.touch x.2
def spLeastL (K : PySem.W.Frag) : Sp := spF (fun (x : List Stl × Way) => [pD K (.list (x.1.map stlD)), pD K (wayD x.2)]) (fun x => pD K (wayD (least x.1 x.2))) (fun x => x.2 ≠ [] ∧ x.2.length ≤ 100 ∧ Ne x.1 ∧ Steps x.1 x.2)
theorem ok58 (T : Txt K mg cE cW) : Cal P w K mg base 2 "_law_least" (spLeastL K) [] := by
  have sc0 : FnScope ["_law_stalls_here", "_law_ring", "_law_back", "_law_index", "_law_ware"] ["_law_stalls_here", "_law_ring"] (defScope (top 58)) := ⟨rfl, rfl, rfl, by decide +kernel, rfl, by decide +kernel, by decide +kernel⟩
  refine T.d58.cal sc0 (spF_len fun _ => rfl) fun cdv f A outer s H vs Q E hr h => ?_
  obtain ⟨⟨ss, r⟩, ⟨hne, hlen, hnn, hst⟩, ⟨v, rs, rfl, ps, v2, rs2, rfl, pr, e⟩, k⟩ := h
  cases e
  replace ps : (pD K (.list (ss.map stlD))).p v H := ps
  replace pr : (pD K (wayD r)).p v2 H := pr
  replace hlen : r.length ≤ 100 := hlen
  replace hne : r ≠ [] := hne
  replace hnn : Ne ss := hnn
  replace hst : Steps ss r := hst
  replace k : ∀ v' H', Ex H H' → (pD K (wayD (least ss r))).p v' H' → Q v' H' := k
  refine ⟨_, pss_cons (ps_set (i := 2) sc0.nd rfl (.inl rfl) (pe_callTy (call_tuple_of) (by rfl) T.b_tuple (by decide +kernel) (pa_cons (pe_lc (own := [("_law_index", 3), ("_law_ware", 4)]) (g := gTup K 2 (gCons (gName 3) (gCons (gName 4) (gNil)))) (by rfl) sc0.nd (pi_tup (pe_revT (pv 1))) (blkOk_by (N := ["_law_stalls_here", "_law_ring", "_law_back", "_law_index", "_law_ware"]) (sc := defScope (top 58)) (by decide +kernel)) (fun _ _ _ _ _ => pg_tup rfl (pgs_cons (pg_name (i := 3) sc0.nd rfl (.inl rfl)) (pgs_cons (pg_name (i := 4) sc0.nd rfl (.inl rfl)) (pgs_nil)))) (fun _ _ _ _ _ => pts_nil) (fun _ _ _ _ _ => pe_tup (pa_cons (pv 3) (pa_cons (pe_op op_sub (pe_op op_add (pe_ix (ix_tup : IxR _ (rIxT K)) (pe_ix (ix_list : IxR _ (rIxL K)) (pv 0) (pv 3) (fun _ _ => rfl)) (pe_int) (fun _ _ => rfl)) (pe_ix (ix_tup : IxR _ (rIxT K)) (pe_ix (ix_list : IxR _ (rIxL K)) (pv 0) (pv 3) (fun _ _ => rfl)) (pe_int) (fun _ _ => rfl))) (pv 4)) (pa_nil))))) (pa_nil))))
    (pss_one (ps_ret (pe_callB (cr_minW rfl (Nat.lt_of_le_of_lt (Nat.add_le_add_left (by decide : 8 ≤ 64) _) hr.units)) (by rfl) T.b_min (by decide +kernel) (pa_cons (pe_op op_cat (pe_c (ok59 T) hr (by decide) rfl (pa_cons (pv 1) (pa_nil))) (pe_c (ok59 T) hr (by decide) rfl (pa_cons (pv 2) (pa_nil)))) (pa_nil))))), ?_⟩
  refine p_asg (P := pT K (r.reverse.map fun b => pD K (pairD (b.1, otherAt ss b)))) (ep_cb (ea_cons (ep_lcT2 (bs := r.reverse) (s1 := fun b => pI (b.1 : Int)) (s2 := fun b => pI (b.2 : Int)) ?_ (by rw [List.length_reverse]; omega) (fun _ _ => rfl) (fun b hb x y H1 e1 px py => ?_) (fun b hb => st_D (by simp [pairD, noList, noListAll]))) ea_nil) cp_tupleL) fun v3 H3 e3 p3 => ?_
  · refine way_pT ?_
    have := ep_rev (ep_var (σ := [some v, some v2, none, none, none]) (i := 1) rfl (show (pD K (.tuple (r.map pairD))).p v2 H from pr))
    rw [← List.map_reverse] at this
    exact this
  · obtain rfl : x = V.int (b.1 : Int) := px
    obtain rfl : y = V.int (b.2 : Int) := py
    obtain ⟨st, hs1, hs2⟩ := hst b (List.mem_reverse.mp hb)
    have : otherAt ss b = st.other b.2 := otherAt_at (b := b.2) hs1
    rw [this]
    refine ep_pair2 (ep_vi rfl) (ep_iis (ep_op (ep_op (ep_ixI (i := 0) (n := (st.u : Int)) (ep_stlL (j := 0) rfl (PD.up _ e1 ps) (ep_vi rfl) hs1) ep_i rfl) (ep_ixI (i := 1) (n := (st.v : Int)) (ep_stlL (j := 0) rfl (PD.up _ e1 ps) (ep_vi rfl) hs1) ep_i rfl) rp_I0) (ep_vi rfl) rp_I0) ?_)
    exact other_sum (hnn st (List.mem_of_getElem? hs1)) hs2
  · have eb : (r.reverse.map fun b => pD K (pairD (b.1, otherAt ss b))) = ((back ss r).map pairD).map (pD K) := by
      unfold back
      rw [List.map_map, List.map_map]
      rfl
    rw [eb] at p3
    have pb : (pD K (wayD (back ss r))).p v3 H3 := pTt_pD p3
    obtain ⟨x, ws, h1, h2⟩ := least_eq (ss := ss) hne
    have tl : ∀ q : Way, (turns q).length = q.length := fun q => by unfold turns; rw [List.length_map, List.length_range]
    have bl := back_len ss r
    refine p_ret (P := pD K (wayD (least ss r))) ?_ fun v5 H5 e5 p5 => k _ _ (e3.trans e5) p5
    rw [h2]
    refine ep_minL (H0 := H3) ?_
    rw [← h1, List.map_append]
    exact ep_op (ep_turnings hlen (ea_cons (ep_var rfl (PD.up _ e3 pr)) ea_nil)) (ep_turnings (by omega) (ea_cons (ep_var rfl pb) ea_nil)) (rp_cat (by rw [List.length_map, List.length_map, tl, tl]; omega))
end
end K43
set_option Elab.async false
set_option linter.all false
set_option maxRecDepth 100000
set_option maxHeartbeats 4000000
set_option pp.maxSteps 800
/-! k43, part FM: _law_walked. -/
namespace K43
open PySem PySem.Spec L2 Evl C8
def uAt (ss : List Stl) (k : Nat) : Nat := match ss[k]? with
  | some s => s.u
  | none => 0
def vAt (ss : List Stl) (k : Nat) : Nat := match ss[k]? with
  | some s => s.v
  | none => 0
def touchB (ss : List Stl) (here k : Nat) : Bool := match ss[k]? with
  | some s => decide (s.u = here) || decide (s.v = here)
  | none => false
def wloop (ss : List Stl) : Nat → Nat → List Nat → Way → Option Way
  | 0, _, _, f => some f
  | n + 1, here, left, f => match left.filter (touchB ss here) with
    | [] => none
    | i :: _ => wloop ss n (otherAt ss (i, here)) (left.erase i) (f ++ [(i, here)])
def ends (ss : List Stl) (lot : List Nat) : List Nat := lot.map (uAt ss) ++ lot.map (vAt ss)
def walked (ss : List Stl) (lot : List Nat) : Option Way :=
  if (decide (lot.length < 2) || (ends ss lot).any fun w => !decide ((ends ss lot).count w = 2)) = true then none else wloop ss lot.length (uAt ss (lot.headD 0)) lot []
theorem count_ofN (i : Nat) : ∀ m : List Nat, (ofN m).count (i : Int) = m.count i
  | [] => rfl
  | x :: m => by
    show ((x : Int) :: ofN m).count (i : Int) = _
    rw [List.count_cons, List.count_cons, count_ofN i m]
    congr 1
    by_cases hx : x = i
    · subst hx; simp
    · have : ¬ (x : Int) = (i : Int) := by omega
      simp [hx, this]
theorem filter_first {l : List Nat} {p : Nat → Bool} {i : Nat} {r : List Nat} (h : l.filter p = i :: r) : i ∈ l ∧ p i = true := by
  have : i ∈ l.filter p := by rw [h]; exact List.mem_cons_self ..
  exact List.mem_filter.mp this
theorem ofN_erase {l : List Nat} {i : Nat} (h : i ∈ l) : ∃ j : Nat, (ofN l)[j]? = some (i : Int) ∧ (∀ m : Nat, m < j → (ofN l)[m]? ≠ some (i : Int)) ∧ (ofN l).eraseIdx j = ofN (l.erase i) := by
  induction l with
  | nil => cases h
  | cons x l ih =>
    by_cases hx : x = i
    · subst hx
      refine ⟨0, rfl, fun m hm => absurd hm (Nat.not_lt_zero _), ?_⟩
      rw [List.erase_cons_head]
      rfl
    · have hi : i ∈ l := (List.mem_cons.mp h).resolve_left fun z => hx z.symm
      obtain ⟨j, h1, h2, h3⟩ := ih hi
      refine ⟨j + 1, h1, fun m hm => ?_, ?_⟩
      · cases m with
        | zero =>
          intro z
          have : (x : Int) = (i : Int) := Option.some.inj z
          exact hx (by omega)
        | succ m => exact h2 m (by omega)
      · have e1 : (ofN (x :: l)).eraseIdx (j + 1) = (x : Int) :: (ofN l).eraseIdx j := rfl
        rw [e1, h3, List.erase_cons_tail (by simpa using hx)]
        rfl
section
variable {K : PySem.W.Frag} {σ : L2.St} {H : Hp} {ta tb te tl : TE} {D : Ends} {tz : TS}
theorem ints_pT {l : List Nat} (h : EvP te σ H (pD K (.tuple ((ofN l).map .int)))) : EvP te σ H (pT K (l.map fun (k : Nat) => pI (k : Int))) := h.imp fun v H' _ p => by
  obtain ⟨a, xs, rfl, h1, h2⟩ := Dp.tup_inv p
  obtain rfl := DpAll.ints h2
  refine ⟨a, _, rfl, h1, ?_⟩
  have key : ∀ l : List Nat, Alls (l.map fun (k : Nat) => pI (k : Int)) ((ofN l).map V.int) H' := by
    intro l
    induction l with
    | nil => rfl
    | cons x l ih => exact ⟨_, _, rfl, rfl, ih⟩
  exact key l
theorem alls_nats {l : List Nat} {xs : List V} (h : Alls (l.map fun (k : Nat) => pI (k : Int)) xs H) : xs = (ofN l).map V.int := by
  have e : (l.map fun (k : Nat) => pI (k : Int)) = (ofN l).map pI := by
    unfold ofN
    rw [List.map_map]
    rfl
  rw [e] at h
  exact alls_ints h
theorem nats_pL {l : List Nat} {a : Addr} (h : H a = some (.lst ((ofN l).map V.int))) : (pL K (l.map fun (k : Nat) => pI (k : Int))).p (.ref a) H := by
  refine ⟨a, _, rfl, SqL.of h, ?_⟩
  have key : ∀ l : List Nat, Alls (l.map fun (k : Nat) => pI (k : Int)) ((ofN l).map V.int) H := by
    intro l
    induction l with
    | nil => rfl
    | cons x l ih => exact ⟨_, _, rfl, rfl, ih⟩
  exact key l
theorem nats_D {l : List Nat} {a : Addr} (h : H a = some (.lst ((ofN l).map V.int))) : (pD K (.list ((ofN l).map .int))).p (.ref a) H := .lst (SqL.of h) ints_DpAll
theorem ep_lenN' {l : List Nat} {a : Addr} (h : H a = some (.lst ((ofN l).map V.int))) (ht : EvP te σ H (pV (.ref a))) : EvP (tCB (fun xs H Q => ∃ p ys, xs = [.ref p] ∧ (SqL K H p ys ∨ SqT K H p ys) ∧ Q (.int ys.length) H) (tCons te tNil)) σ H (pI (l.length : Nat)) := fun H1 e Q q => ht H1 e _ fun v H2 e2 p => by
  obtain rfl : v = V.ref a := p
  refine ⟨a, _, rfl, .inl (SqL.of ((e.trans e2) _ _ h)), q _ H2 e2 ?_⟩
  rw [List.length_map, ofN_len]
  rfl
theorem ep_ixN {l : List Nat} {a : Addr} {i : Nat} {x : Nat} (h : H a = some (.lst ((ofN l).map V.int))) (ht : EvP te σ H (pV (.ref a))) (hi : EvP tb σ H (pI (i : Nat))) (hx : l[i]? = some x) : EvP (tOp (rIxL K) te tb) σ H (pI (x : Nat)) :=
  ep_rowL ht hi h (by unfold ofN; rw [List.getElem?_map, List.getElem?_map, hx]; rfl)
theorem ep_count {l : List Nat} {a : Addr} {i : Nat} (h : H a = some (.lst ((ofN l).map V.int))) (ht : EvP te σ H (pV (.ref a))) (hi : EvP tb σ H (pI (i : Int))) : EvP (tBM K "list" (rCntI K) te (tCons tb tNil)) σ H (pI (l.count i : Nat)) := fun H1 e Q q => ht H1 e _ fun v H2 e2 p => by
  obtain rfl : v = V.ref a := p
  refine ⟨Or.inl ⟨rfl, _, sq_of ((e.trans e2) _ _ h)⟩, hi H2 (e.trans e2) _ fun w H3 e3 pw => ?_⟩
  obtain rfl : w = V.int (i : Int) := pw
  refine ⟨a, ofN l, (i : Int), rfl, rfl, SqL.of ((e.trans (e2.trans e3)) _ _ h), ?_⟩
  rw [count_ofN]
  exact q _ H3 (e2.trans e3) rfl
theorem p_remove {l : List Nat} {a : Addr} {i : Nat} (h : H a = some (.lst ((ofN l).map V.int))) (hm : i ∈ l) (ht : EvP te σ H (pV (.ref a))) (hi : EvP tb σ H (pI (i : Nat))) (k : ∀ H1, Ex H H1 → tz D σ (upd H1 a (.lst ((ofN (l.erase i)).map V.int)))) :
    tSeq (tDrop (tBM K "list" rRemI te (tCons tb tNil))) tz D σ H := ht H (Ex.refl H) _ fun v H2 e2 p => by
  obtain rfl : v = V.ref a := p
  refine ⟨Or.inl ⟨rfl, _, sq_of (e2 _ _ h)⟩, hi H2 e2 _ fun w H3 e3 pw => ?_⟩
  obtain rfl : w = V.int (i : Nat) := pw
  obtain ⟨j, h1, h2, h3⟩ := ofN_erase hm
  refine ⟨a, ofN l, (i : Int), j, rfl, rfl, (e2.trans e3) _ _ h, h1, h2, ?_⟩
  rw [h3]
  exact k H3 (e2.trans e3)
end
section
variable {P : Program} {w : World} {K : PySem.W.Frag} {mg : Str → Option Value} {base : Heap} {cE cW cT : Addr} {σ : L2.St} {H : Hp} {te tx tl : TE}
def pOptW (K : PySem.W.Frag) : Option Way → PD
  | none => pV .non
  | some r => pD K (wayD r)
def spWalked (K : PySem.W.Frag) : Sp := spF (fun (x : List Stl × List Nat) => [pD K (.list (x.1.map stlD)), pD K (.tuple ((ofN x.2).map .int))]) (fun x => pOptW K (walked x.1 x.2)) (fun x => Ne x.1 ∧ (∀ i ∈ x.2, i < x.1.length) ∧ x.2.length ≤ 20)
theorem ok57 (T : Txt K mg cE cW) : Cal P w K mg base 1 "_law_walked" (spWalked K) [] := by
  have sc0 : FnScope ["_law_stalls_here", "_law_lot", "_law_wares", "_law_here", "_law_left", "_law_found", "_law_turn", "_law_ways", "_law_k", "_law_ware"] ["_law_stalls_here", "_law_lot"] (defScope (top 57)) := ⟨rfl, rfl, rfl, by decide +kernel, rfl, by decide +kernel, by decide +kernel⟩
  refine T.d57.cal sc0 (spF_len fun _ => rfl) fun cdv f A outer s H vs Q E hr h => ?_
  obtain ⟨⟨ss, lot⟩, ⟨hne, hix, hlen⟩, ⟨v, rs, rfl, ps, v2, rs2, rfl, pl, e⟩, k⟩ := h
  cases e
  replace ps : (pD K (.list (ss.map stlD))).p v H := ps
  replace pl : (pD K (.tuple ((ofN lot).map .int))).p v2 H := pl
  replace hne : Ne ss := hne
  replace hix : ∀ i ∈ lot, i < ss.length := hix
  replace hlen : lot.length ≤ 20 := hlen
  replace k : ∀ v' H', Ex H H' → (pOptW K (walked ss lot)).p v' H' → Q v' H' := k
  have sAt : ∀ {i : Nat}, i < ss.length → ∃ s, ss[i]? = some s := fun {i} hi => ⟨ss[i], by simp [hi]⟩
  refine ⟨_, pss_cons (ps_set (i := 2) sc0.nd rfl (.inr rfl) (pe_op op_cat (pe_lc (own := [("_law_k", 8)]) (g := gName 8) (by rfl) sc0.nd (pi_tup (pv 1)) (blkOk_by (N := ["_law_stalls_here", "_law_lot", "_law_wares", "_law_here", "_law_left", "_law_found", "_law_turn", "_law_ways", "_law_k", "_law_ware"]) (sc := defScope (top 57)) (by decide +kernel)) (fun _ _ _ _ _ => pg_name (i := 8) sc0.nd rfl (.inl rfl)) (fun _ _ _ _ _ => pts_nil) (fun _ _ _ _ _ => pe_ix (ix_tup : IxR _ (rIxT K)) (pe_ix (ix_list : IxR _ (rIxL K)) (pv 0) (pv 8) (fun _ _ => rfl)) (pe_int) (fun _ _ => rfl))) (pe_lc (own := [("_law_k", 8)]) (g := gName 8) (by rfl) sc0.nd (pi_tup (pv 1)) (blkOk_by (N := ["_law_stalls_here", "_law_lot", "_law_wares", "_law_here", "_law_left", "_law_found", "_law_turn", "_law_ways", "_law_k", "_law_ware"]) (sc := defScope (top 57)) (by decide +kernel)) (fun _ _ _ _ _ => pg_name (i := 8) sc0.nd rfl (.inl rfl)) (fun _ _ _ _ _ => pts_nil) (fun _ _ _ _ _ => pe_ix (ix_tup : IxR _ (rIxT K)) (pe_ix (ix_list : IxR _ (rIxL K)) (pv 0) (pv 8) (fun _ _ => rfl)) (pe_int) (fun _ _ => rfl)))))
    (pss_cons (ps_if (PW.pt (pw_or (pt_cmpR op_lt (pe_callB (call_len_seq) (by rfl) T.b_len (by decide +kernel) (pa_cons (pv 1) (pa_nil))) (pe_int) (nomark _)) (pw_or1 (pt_val (pe_callB (cr_any rfl) (by rfl) T.b_any (by decide +kernel) (pa_cons (pe_lc (own := [("_law_ware", 9)]) (g := gName 9) (by rfl) sc0.nd (pi_list (pv 2)) (blkOk_by (N := ["_law_stalls_here", "_law_lot", "_law_wares", "_law_here", "_law_left", "_law_found", "_law_turn", "_law_ways", "_law_k", "_law_ware"]) (sc := defScope (top 57)) (by decide +kernel)) (fun _ _ _ _ _ => pg_name (i := 9) sc0.nd rfl (.inl rfl)) (fun _ _ _ _ _ => pts_nil) (fun _ _ _ _ _ => pe_cmpR op_ne ((pe_bm PySem.F.plainAttrs_list PySem.F.slot_list_count PySem.F.type_list_count (mt_lcount : MtR _ _ (rCntI K)) (pv 2) (pa_cons (pv 9) (pa_nil)) : PE _ _ (tBM K "list" (rCntI K) (tVar 2) (tCons (tVar 9) tNil)))) (pe_int) (nomark _))) (pa_nil))))))) (pss_one (ps_ret (pe_non))) (pss_nil))
    (pss_cons (ps_set (i := 3) sc0.nd rfl (.inr rfl) (pe_ix ix_tup (pe_ix ix_list (pv 0) (pe_ix ix_tup (pv 1) (pe_int) (fun _ _ => rfl)) (fun _ _ => rfl)) (pe_int) (fun _ _ => rfl)))
    (pss_cons (ps_set (i := 4) sc0.nd rfl (.inl rfl) (pe_callTy (call_list_of) (by rfl) T.b_list (by decide +kernel) (pa_cons (pv 1) (pa_nil))))
    (pss_cons (ps_set (i := 5) sc0.nd rfl (.inl rfl) (pe_lst (pa_nil)))
    (pss_cons (ps_for PassesOwn.never rfl (pi_range1 rfl T.b_range (pa_cons (pe_callB (call_len_seq) (by rfl) T.b_len (by decide +kernel) (pa_cons (pv 1) (pa_nil))) (pa_nil))) (pg_name (i := 6) sc0.nd rfl (.inl rfl)) (pss_cons (ps_setLc (i := 7) (own := [("_law_k", 8)]) (g := gName 8) (tt := _) (by rfl) sc0.nd rfl rfl (sw_true rfl rfl rfl (by decide +kernel)) (pi_list (pv 4)) (blkOk_by (N := ["_law_stalls_here", "_law_lot", "_law_wares", "_law_here", "_law_left", "_law_found", "_law_turn", "_law_ways", "_law_k", "_law_ware"]) (sc := defScope (top 57)) (by decide +kernel)) (fun _ _ _ _ _ => pg_name (i := 8) sc0.nd rfl (.inl rfl)) (fun _ _ _ _ _ => pts_one (pt_cmpR (op_in_seq : OpR _ _ (rIn K false)) (pv 3) (pe_slice (sl_tupA : SlR _ (rSlA K)) (pe_ix (ix_list : IxR _ (rIxL K)) (pv 0) (pv 8) (fun _ _ => rfl)) po_none (po_some (pe_int))) rfl)) (fun _ _ _ _ _ => pv 8))
    (pss_cons (ps_if (pt_cmpR op_eq (pe_callB (call_len_seq) (by rfl) T.b_len (by decide +kernel) (pa_cons (pv 7) (pa_nil))) (pe_int) (nomark _)) (pss_one (ps_ret (pe_non))) (pss_nil))
    (pss_cons (ps_expr (pe_bm PySem.F.plainAttrs_list PySem.F.slot_list_remove PySem.F.type_list_remove mt_remove (pv 4) (pa_cons (pe_ix ix_list (pv 7) (pe_int) (fun _ _ => rfl)) (pa_nil))))
    (pss_cons (ps_expr (pe_bm PySem.F.plainAttrs_list PySem.F.slot_list_append PySem.F.type_list_append mt_append (pv 5) (pa_cons (pe_tup (pa_cons (pe_ix ix_list (pv 7) (pe_int) (fun _ _ => rfl)) (pa_cons (pv 3) (pa_nil)))) (pa_nil))))
    (pss_one (ps_set (i := 3) sc0.nd rfl (.inr rfl) (pe_op op_sub (pe_op op_add (pe_ix ix_tup (pe_ix ix_list (pv 0) (pe_ix ix_list (pv 7) (pe_int) (fun _ _ => rfl)) (fun _ _ => rfl)) (pe_int) (fun _ _ => rfl)) (pe_ix ix_tup (pe_ix ix_list (pv 0) (pe_ix ix_list (pv 7) (pe_int) (fun _ _ => rfl)) (fun _ _ => rfl)) (pe_int) (fun _ _ => rfl))) (pv 3)))))))))
    (pss_one (ps_ret (pe_callTy (call_tuple_of) (by rfl) T.b_tuple (by decide +kernel) (pa_cons (pv 5) (pa_nil)))))))))), ?_⟩
  refine p_asg (P := pLN H ((lot.map fun i => pI (uAt ss i : Nat)) ++ (lot.map fun i => pI (vAt ss i : Nat)))) (ep_op (P := pLN H (lot.map fun i => pI (uAt ss i : Nat))) (P' := pLN H (lot.map fun i => pI (vAt ss i : Nat))) (ep_lcTaN (K := K) (src := fun (i : Nat) => pI (i : Int)) (ints_pT (ep_var rfl pl)) (by omega) (fun _ => rfl) (fun i hi x H1 e1 px => ?g1) (fun i hi => st_I)) (ep_lcTaN (K := K) (src := fun (i : Nat) => pI (i : Int)) (ints_pT (ep_var rfl pl)) (by omega) (fun _ => rfl) (fun i hi x H1 e1 px => ?g2) (fun i hi => st_I)) (rp_cat (by rw [List.length_map, List.length_map]; omega))) fun v3 H1 e1 p3 => ?_
  case g1 =>
    obtain ⟨st, hst⟩ := sAt (hix i hi)
    refine ep_ixI (i := 0) (n := (uAt ss i : Nat)) (ep_stlL (j := 0) rfl (PD.up _ e1 ps) (ep_var rfl px) hst) ep_i ?_
    unfold uAt
    rw [hst]
    rfl
  case g2 =>
    obtain ⟨st, hst⟩ := sAt (hix i hi)
    refine ep_ixI (i := 1) (n := (vAt ss i : Nat)) (ep_stlL (j := 0) rfl (PD.up _ e1 ps) (ep_var rfl px) hst) ep_i ?_
    unfold vAt
    rw [hst]
    rfl
  obtain ⟨Wa, xs, rfl, nWa, hWa, aWa⟩ := p3
  have ew : xs = (ofN (ends ss lot)).map V.int := by
    have e : ((lot.map fun i => pI (uAt ss i : Nat)) ++ (lot.map fun i => pI (vAt ss i : Nat))) = (ends ss lot).map fun (k : Nat) => pI (k : Int) := by
      unfold ends
      rw [List.map_append, List.map_map, List.map_map]
      rfl
    rw [e] at aWa
    exact alls_nats aWa
  subst ew
  have lE : (ends ss lot).length ≤ 40 := by unfold ends; rw [List.length_append, List.length_map, List.length_map]; omega
  refine q_when (b := decide (lot.length < 2) || (ends ss lot).any fun w => !decide ((ends ss lot).count w = 2)) (et_is (et_or (pt_test (ep_op ((ep_cb (ea_cons (ep_var rfl (PD.up _ e1 pl)) ea_nil) cp_lenT).imp fun _ _ _ p => by rw [List.length_map, ofN_len] at p; exact p) ep_i rp_I0b)) fun _ => pt_B (ep_cb (Ps := [pL K (((ends ss lot).map fun w => !decide ((ends ss lot).count w = 2)).map pB)]) (ea_cons ?g3 ea_nil) cp_any)) ?b1) (fun hb H2 e2 => ?_) (fun hb H2 e2 => ?_)
  case g3 =>
    rw [List.map_map]
    refine ep_lcLa (src := fun (i : Nat) => pI (i : Int)) (ep_var rfl (nats_pL hWa)) (by omega) (fun _ => rfl) (fun b hb x H2 e2 px => ?_) (fun b hb => st_B)
    refine ep_bis (ep_op (ep_count (e2 _ _ hWa) (ep_vv rfl) (ep_var rfl px)) ep_i rp_neI) ?_
    show (!decide ((((ends ss lot).count b : Nat) : Int) = 2)) = !decide ((ends ss lot).count b = 2)
    congr 1
    rw [Bool.eq_iff_iff, decide_eq_true_iff, decide_eq_true_iff]
    omega
  case b1 =>
    rw [List.any_map]
    congr 1
    rw [Bool.eq_iff_iff, decide_eq_true_iff, decide_eq_true_iff]
    omega
  · refine k _ _ (e1.trans e2) ?_
    unfold walked
    rw [if_pos hb]
    rfl
  · have hw0 : walked ss lot = wloop ss lot.length (uAt ss (lot.headD 0)) lot [] := by
      unfold walked
      rw [if_neg (by rw [hb]; decide)]
    rw [Bool.or_eq_false_iff, decide_eq_false_iff_not] at hb
    have hl2 : 2 ≤ lot.length := by omega
    obtain ⟨i0, lot', hlot⟩ : ∃ i0 lot', lot = i0 :: lot' := by
      cases lot with
      | nil => simp at hl2
      | cons a b => exact ⟨a, b, rfl⟩
    have e02 := e1.trans e2
    obtain ⟨s0, hs0⟩ := sAt (hix i0 (by rw [hlot]; simp))
    have hd0 : lot.headD 0 = i0 := by rw [hlot]; rfl
    have hu0 : uAt ss i0 = s0.u := by unfold uAt; rw [hs0]
    refine p_asg (P := pI (s0.u : Nat)) (ep_ixI (i := 0) (n := (s0.u : Nat)) (ep_stlL (j := 0) rfl (PD.up _ e02 ps) (ep_ixI (i := 0) (n := (i0 : Nat)) (ep_var rfl (PD.up _ e02 pl)) ep_i (by rw [hlot]; rfl)) hs0) ep_i rfl) fun v4 H3 e3 p4 => ?_
    cases p4
    have e03 := e02.trans e3
    obtain ⟨la, lx, rfl, hla, dla⟩ := Dp.tup_inv pl
    obtain rfl := DpAll.ints dla
    refine p_asg (P := ⟨fun x H' => ∃ p, x = .ref p ∧ H3 p = none ∧ H' p = some (.lst ((ofN lot).map V.int)), fun e ⟨p, h1, h2, h3⟩ => ⟨p, h1, h2, e _ _ h3⟩⟩) (ep_cb (Ps := [pV (.ref la)]) (ea_cons (ep_vv rfl) ea_nil) fun vs H4 e4 ps Q2 q2 => ?g5) fun v5 H4 e4 p5 => ?_
    case g5 =>
      obtain ⟨x, _, rfl, px, er⟩ := ps
      cases er
      cases px
      exact ⟨la, _, rfl, .inr (ex_t (e03.trans e4) hla), fun p hp => q2 _ _ (Ex.new hp) ⟨p, rfl, fresh_back e4 hp, upd_same⟩⟩
    obtain ⟨Lf, rfl, nLf, hLf⟩ := p5
    refine p_asg (ep_lstN (Ps := []) ea_nil (by simp)) fun v6 H5 e5 p6 => ?_
    obtain ⟨Fo, _, rfl, nFo, hFo, rfl⟩ := p6
    have e05 := (e03.trans e4).trans e5
    have nLFo : Lf ≠ Fo := ne_of_none hLf nFo
    have nLH : H Lf = none := fresh_back e03 nLf
    have nFH : H Fo = none := fresh_back (e03.trans e4) nFo
    refine p_forR (n := lot.length) (ea_cons ((ep_cb (ea_cons (ep_var rfl (show (pD K (.tuple ((ofN lot).map .int))).p (.ref la) H5 from Dp.up e05 pl)) ea_nil) cp_lenT).imp fun _ _ _ p => by rw [List.length_map, ofN_len] at p; exact p) ea_nil) (by omega)
      (fun j σ' H' => ∃ here left fs found a6 a7, σ' = [some v, some (.ref la), some (.ref Wa), some (.int (here : Nat)), some (.ref Lf), some (.ref Fo), a6, a7, none, none] ∧ Ex H H' ∧ H' Lf = some (.lst ((ofN left).map V.int)) ∧ H' Fo = some (.lst fs) ∧ DpAll K H' fs (found.map pairD) ∧ found.length = j ∧ (∀ i ∈ left, i < ss.length) ∧ left.length ≤ 20 ∧ wloop ss (lot.length - j) here left found = walked ss lot)
      (fun H6 e6 => ⟨s0.u, lot, [], [], none, none, rfl, e05.trans e6, e6 _ _ (e5 _ _ hLf), e6 _ _ hFo, .nil, rfl, hix, hlen, by rw [hw0, hd0, hu0]; rfl⟩) ?_ ?_
    · rintro j σ' H6 hj ⟨here, left, fs, found, a6, a7, rfl, ex6, hL6, hF6, dF6, hfl, hlx, hll, hwl⟩
      have ps6 := PD.up _ ex6 ps
      refine p_asg (P := pLN H6 ((left.filter (touchB ss here)).map fun (k : Nat) => pI (k : Int))) (ep_lcLFN (src := fun (k : Nat) => pI (k : Int)) (ep_var rfl (nats_pL (K := K) hL6)) (by omega) (fun _ => rfl) (fun b hb x H7 e7 px => ?g6) (fun b hb _ x H7 e7 px => ep_var rfl px) (fun b hb _ => st_I)) fun v7 H7 e7 p7 => ?_
      case g6 =>
        obtain ⟨st, hst⟩ := sAt (hlx b hb)
        refine pt_test (ep_bis (ep_op (ep_vi rfl) (ep_slTo (n := 2) (ep_stlL (j := 0) rfl (PD.up _ e7 ps6) (ep_var rfl px) hst) ep_i) (rp_inT (ns := [(st.u : Int), (st.v : Int)]))) ?_)
        unfold touchB
        rw [hst]
        show decide ((here : Int) ∈ [(st.u : Int), (st.v : Int)]) = (decide (st.u = here) || decide (st.v = here))
        rw [Bool.eq_iff_iff, Bool.or_eq_true, decide_eq_true_iff, decide_eq_true_iff, decide_eq_true_iff]
        simp only [List.mem_cons, List.not_mem_nil, or_false]
        omega
      obtain ⟨Wy, ys, rfl, nWy, hWy, aWy⟩ := p7
      have ey := alls_nats aWy
      subst ey
      have ejl : lot.length - j = (lot.length - (j + 1)) + 1 := by omega
      rw [ejl] at hwl
      refine q_when (pt_test (ep_op (ep_lenN' hWy (ep_vv rfl)) ep_i rp_eqI)) (fun hb8 H8 e8 => ?_) (fun hb8 H8 e8 => ?_)
      · have h0 : left.filter (touchB ss here) = [] := by
          have := of_decide_eq_true hb8
          exact List.eq_nil_of_length_eq_zero (by omega)
        refine k _ _ ((ex6.trans e7).trans e8) ?_
        rw [← hwl]
        unfold wloop
        rw [h0]
        rfl
      · cases hft : left.filter (touchB ss here) with
        | nil =>
          rw [hft] at hb8
          simp at hb8
        | cons i rest =>
        obtain ⟨hil, hit⟩ := filter_first hft
        obtain ⟨st, hst⟩ := sAt (hlx i hil)
        have htc : st.touch here := by
          unfold touchB at hit
          rw [hst] at hit
          simpa [Stl.touch] using hit
        rw [hft] at hWy
        have hWy8 := e8 _ _ hWy
        have hL8 := e8 _ _ (e7 _ _ hL6)
        have first : ∀ {H' : Hp} {σ : L2.St}, σ[7]? = some (some (.ref Wy)) → H' Wy = some (.lst ((ofN (i :: rest)).map V.int)) → EvP (tOp (rIxL K) (tVar 7) (tC (.int 0))) σ H' (pI (i : Nat)) := fun {H' σ} hv hW => ep_ixN (i := 0) hW (ep_vv hv) ep_i rfl
        refine p_remove hL8 hil (ep_vv rfl) (first rfl hWy8) fun H9 e9 => ?_
        have hL9 := e9 _ _ hL8
        have nWyL : Wy ≠ Lf := fun z => by
          subst z
          rw [hL6] at nWy
          cases nWy
        have nWyF : Wy ≠ Fo := fun z => by
          subst z
          rw [hF6] at nWy
          cases nWy
        have hF9 : (upd H9 Lf (.lst ((ofN (left.erase i)).map V.int))) Fo = some (.lst fs) := by rw [upd_ne nLFo.symm]; exact e9 _ _ (e8 _ _ (e7 _ _ hF6))
        have hWy9 : (upd H9 Lf (.lst ((ofN (left.erase i)).map V.int))) Wy = some (.lst ((ofN (i :: rest)).map V.int)) := by rw [upd_ne nWyL]; exact e9 _ _ hWy8
        have ex9 : Ex H (upd H9 Lf (.lst ((ofN (left.erase i)).map V.int))) := Ex.mut (((ex6.trans e7).trans e8).trans e9) nLH
        have lf := DpAll.len dF6
        rw [List.length_map] at lf
        refine p_app (P := pD K (pairD (i, here))) hF9 (ep_vv rfl) (ep_pair2 (first rfl hWy9) (ep_vi rfl)) (by omega) fun v10 H10 e10 p10 => ?_
        have hF10 := e10 _ _ hF9
        have ex10 := Ex.mut (o := HO.lst (fs ++ [v10])) (ex9.trans e10) nFH
        have ps10 := PD.up _ ex10 ps
        have hWy10 : (upd H10 Fo (.lst (fs ++ [v10]))) Wy = some (.lst ((ofN (i :: rest)).map V.int)) := by rw [upd_ne nWyF]; exact e10 _ _ hWy9
        refine p_asg1 (P := pI (st.other here : Nat)) (ep_iis (ep_op (ep_op (ep_ixI (i := 0) (n := (st.u : Int)) (ep_stlL (j := 0) rfl ps10 (first rfl hWy10) hst) ep_i rfl) (ep_ixI (i := 1) (n := (st.v : Int)) (ep_stlL (j := 0) rfl ps10 (first rfl hWy10) hst) ep_i rfl) rp_I0) (ep_vi rfl) rp_I0) (other_sum (hne st (List.mem_of_getElem? hst)) htc)) fun v11 H11 e11 p11 => ?_
        cases p11
        refine ⟨st.other here, left.erase i, fs ++ [v10], found ++ [(i, here)], _, _, rfl, ex10.trans e11, ?_, e11 _ _ upd_same, ?_, ?_, ?_, ?_, ?_⟩
        · refine e11 _ _ ?_
          rw [upd_ne nLFo]
          exact e10 _ _ upd_same
        · refine DpAll.up e11 (DpAll.lst hF10 (noList_pairs _) ?_)
          rw [List.map_append]
          refine DpAll.snoc (DpAll.up e10 ?_) p10
          exact DpAll.lst hL9 (noList_pairs _) (DpAll.up ((e7.trans e8).trans e9) dF6)
        · rw [List.length_append, List.length_singleton, hfl]
        · exact fun x hx => hlx x (List.mem_of_mem_erase hx)
        · have := List.length_erase_le (a := i) (l := left)
          omega
        · rw [← hwl]
          conv => rhs; unfold wloop
          rw [hft]
          show _ = wloop ss _ (otherAt ss (i, here)) _ _
          rw [otherAt_at hst]
    · rintro σ' H6 ⟨here, left, fs, found, a6, a7, rfl, ex6, hL6, hF6, dF6, hfl, hlx, hll, hwl⟩
      rw [Nat.sub_self] at hwl
      have hwl' : walked ss lot = some found := hwl.symm
      refine p_ret (P := pT K ((found.map pairD).map (pD K))) (ep_cb (ea_cons (ep_var rfl (show (pL K ((found.map pairD).map (pD K))).p (.ref Fo) H6 from pD_pL (.lst (SqL.of hF6) dF6))) ea_nil) cp_tupleL) fun v7 H7 e7 p7 => k _ _ (ex6.trans e7) ?_
      rw [hwl']
      exact pTt_pD p7
end
end K43
set_option Elab.async false
set_option linter.all false
set_option maxRecDepth 100000
set_option maxHeartbeats 4000000
set_option pp.maxSteps 800
/-! k43, part FN: _law_rings, _law_is_uneven. -/
namespace K43
open PySem PySem.Spec L2 Evl C8
def lotsW : Nat → List (List Nat)
  | 0 => [[]]
  | k + 1 => lotsW k ++ (lotsW k).map fun l => l ++ [k]
theorem lotsW_len : ∀ k, (lotsW k).length = 2 ^ k
  | 0 => rfl
  | k + 1 => by
    rw [lotsW, List.length_append, List.length_map, lotsW_len k, Nat.pow_succ]
    omega
theorem lotsW_lt : ∀ {k : Nat} {l : List Nat}, l ∈ lotsW k → (∀ i ∈ l, i < k) ∧ l.length ≤ k
  | 0, l, h => by
    rw [List.mem_singleton.mp h]
    simp
  | k + 1, l, h => by
    rcases List.mem_append.mp h with q | q
    · obtain ⟨h1, h2⟩ := lotsW_lt q
      exact ⟨fun i hi => Nat.lt_succ_of_lt (h1 i hi), by omega⟩
    · obtain ⟨l', hl', rfl⟩ := List.mem_map.mp q
      obtain ⟨h1, h2⟩ := lotsW_lt hl'
      refine ⟨fun i hi => ?_, by rw [List.length_append, List.length_singleton]; omega⟩
      rcases List.mem_append.mp hi with z | z
      · exact Nat.lt_succ_of_lt (h1 i z)
      · rw [List.mem_singleton.mp z]; exact Nat.lt_succ_self k
theorem touchB_at {ss : List Stl} {here i : Nat} (h : touchB ss here i = true) : ∃ s, ss[i]? = some s ∧ s.touch here := by
  unfold touchB at h
  cases hs : ss[i]? with
  | none => rw [hs] at h; cases h
  | some s =>
    rw [hs] at h
    exact ⟨s, rfl, by simpa [Stl.touch] using h⟩
theorem wloop_spec {ss : List Stl} : ∀ {n here : Nat} {left : List Nat} {f r : Way}, wloop ss n here left f = some r → ∃ q b rest, r = f ++ q ∧ q.length = n ∧ IsWalk ss here q b ∧ left.Perm (q.map (·.1) ++ rest)
  | 0, here, left, f, r, h => by
    cases h
    exact ⟨[], here, left, by simp, rfl, .nil _, List.Perm.refl _⟩
  | n + 1, here, left, f, r, h => by
    unfold wloop at h
    cases hf : left.filter (touchB ss here) with
    | nil => rw [hf] at h; cases h
    | cons i rest =>
      rw [hf] at h
      obtain ⟨hil, hit⟩ := filter_first hf
      obtain ⟨s, hs, ht⟩ := touchB_at hit
      obtain ⟨q, b, rs, h1, h2, h3, h4⟩ := wloop_spec h
      rw [otherAt_at hs] at h3
      refine ⟨(i, here) :: q, b, rs, by rw [h1]; simp, by simp [h2], ?_, ?_⟩
      · exact IsWalk.app (p := [(i, here)]) |>.mpr ⟨_, IsWalk.one hs ht, h3⟩
      · exact (List.perm_cons_erase hil).trans (h4.cons i)
theorem walked_spec {ss : List Stl} {lot : List Nat} {r : Way} (h : walked ss lot = some r) : 2 ≤ lot.length ∧ (∀ w ∈ ends ss lot, (ends ss lot).count w = 2) ∧ r.length = lot.length ∧ lot.Perm (r.map (·.1)) ∧ ∃ b, IsWalk ss (uAt ss (lot.headD 0)) r b := by
  unfold walked at h
  split at h
  · cases h
  · rename_i hc
    rw [Bool.or_eq_true, not_or, decide_eq_true_iff] at hc
    obtain ⟨q, b, rest, h1, h2, h3, h4⟩ := wloop_spec h
    rw [List.nil_append] at h1
    subst h1
    have hr : rest = [] := by
      have := h4.length_eq
      rw [List.length_append, List.length_map, h2] at this
      exact List.eq_nil_of_length_eq_zero (by omega)
    subst hr
    rw [List.append_nil] at h4
    refine ⟨by omega, fun w hw => ?_, h2, h4, b, h3⟩
    have := hc.2
    rw [List.any_eq_true] at this
    apply Classical.byContradiction
    intro z
    exact this ⟨w, hw, by simp [z]⟩
theorem IsWalk.steps {ss : List Stl} {a b : Nat} {r : Way} (h : IsWalk ss a r b) : Steps ss r := fun x hx => by
  obtain ⟨k, hk⟩ := List.getElem?_of_mem hx
  obtain ⟨s, h1, h2, _⟩ := h.at k x hk
  exact ⟨s, h1, h2⟩
def lawFound (ss : List Stl) (lots : List (List Nat)) : List Way := lots.filterMap fun l => (walked ss l).map (least ss)
def lawRings (ss : List Stl) : List Way := (lawFound ss (lotsW ss.length)).mergeSort wle
section
variable {P : Program} {w : World} {K : PySem.W.Frag} {mg : Str → Option Value} {base : Heap} {cE cW cT : Addr} {σ : L2.St} {H : Hp} {te tx tl : TE}
def lotD (l : List Nat) : PyData := .tuple ((ofN l).map .int)
theorem noList_lot (l : List Nat) : noList (lotD l) = true := noList_piece l
theorem ep_lcLFx {β : Type} {bs : List β} {src res : β → PD} {j : Nat} {vs : List Nat} (h : EvP tl σ H (pLN H (bs.map src))) (hz : bs.length ≤ 10000) (hw : ∀ x, wipe ((wipe σ vs).set j (some x)) vs = wipe σ vs)
    (he : ∀ b ∈ bs, ∀ x H1, Ex H H1 → (src b).p x H1 → EvP te ((wipe σ vs).set j (some x)) H1 (res b)) (hS : ∀ b ∈ bs, (res b).St) :
    EvP (tLc (iList K tl) (gName j) tYes te vs) σ H (pLN H (bs.map res)) := ep_lcLN (h.imp fun _ _ _ p => pLN_pL p) hz hw he hS
def spLawRings (K : PySem.W.Frag) : Sp := spF (fun (ss : List Stl) => [pD K (.list (ss.map stlD))]) (fun ss => pD K (.list ((lawRings ss).map wayD))) (fun ss => Ne ss ∧ ss.length ≤ 9)
theorem ok60 (T : Txt K mg cE cW) : Cal P w K mg base 3 "_law_rings" (spLawRings K) [] := by
  have sc0 : FnScope ["_law_stalls_here", "_law_lots", "_law_k", "_law_lot", "_law_found", "_law_ring"] ["_law_stalls_here"] (defScope (top 60)) := ⟨rfl, rfl, rfl, by decide +kernel, rfl, by decide +kernel, by decide +kernel⟩
  refine T.d60.cal sc0 (spF_len fun _ => rfl) fun cdv f A outer s H vs Q E hr h => ?_
  obtain ⟨ss, ⟨hne, hlen⟩, ⟨v, rs, rfl, ps, e⟩, k⟩ := h
  cases e
  replace ps : (pD K (.list (ss.map stlD))).p v H := ps
  replace k : ∀ v' H', Ex H H' → (pD K (.list ((lawRings ss).map wayD))).p v' H' → Q v' H' := k
  refine ⟨_, pss_cons (ps_set (i := 1) sc0.nd rfl (.inl rfl) (pe_lst (pa_cons (pe_tup (pa_nil)) (pa_nil))))
    (pss_cons (ps_for PassesOwn.never rfl (pi_range1 rfl T.b_range (pa_cons (pe_callB (call_len_seq) (by rfl) T.b_len (by decide +kernel) (pa_cons (pv 0) (pa_nil))) (pa_nil))) (pg_name (i := 2) sc0.nd rfl (.inr rfl)) (pss_one (ps_set (i := 1) sc0.nd rfl (.inl rfl) (pe_op op_cat (pv 1) (pe_lc (own := [("_law_lot", 3)]) (g := gName 3) (by rfl) sc0.nd (pi_list (pv 1)) (blkOk_by (N := ["_law_stalls_here", "_law_lots", "_law_k", "_law_lot", "_law_found", "_law_ring"]) (sc := defScope (top 60)) (by decide +kernel)) (fun _ _ _ _ _ => pg_name (i := 3) sc0.nd rfl (.inl rfl)) (fun _ _ _ _ _ => pts_nil) (fun _ _ _ _ _ => pe_op (op_catA : OpR _ _ (rCatA K)) (pv 3) (pe_tup (pa_cons (pv 2) (pa_nil)))))))))
    (pss_cons (ps_set (i := 4) sc0.nd rfl (.inl rfl) (pe_lst (pa_nil)))
    (pss_cons (ps_for PassesOwn.never rfl (pi_list (pv 1)) (pg_name (i := 3) sc0.nd rfl (.inl rfl)) (pss_cons (ps_set (i := 5) sc0.nd rfl (.inl rfl) (pe_c (ok57 T) hr (by decide) rfl (pa_cons (pv 0) (pa_cons (pv 3) (pa_nil)))))
    (pss_one (ps_if (pt_cmp (pc_notN (pv 5))) (pss_one (ps_expr (pe_bm PySem.F.plainAttrs_list PySem.F.slot_list_append PySem.F.type_list_append mt_append (pv 4) (pa_cons (pe_c (ok58 T) hr (by decide) rfl (pa_cons (pv 0) (pa_cons (pv 5) (pa_nil)))) (pa_nil))))) (pss_nil)))))
    (pss_one (ps_ret (pe_callB (cr_sortedW (Nat.lt_of_le_of_lt (Nat.add_le_add_left (by decide : 8 ≤ 64) _) hr.units)) (by rfl) T.b_sorted (by decide +kernel) (pa_cons (pv 4) (pa_nil)))))))), ?_⟩
  refine p_asg (ep_lstN (Ps := (lotsW 0).map fun l => pD K (lotD l)) (ea_cons (ep_nilT (K := K)) ea_nil) (by simp [lotsW])) fun v1 H1 e1 p1 => ?_
  have pow9 : ∀ {k : Nat}, k ≤ 9 → 2 ^ k ≤ 512 := fun {k} hk => Nat.le_trans (Nat.pow_le_pow_right (by decide) hk) (by decide)
  refine p_forR (n := ss.length) (ea_cons ((ep_cb (ea_cons (ep_var rfl (PD.up _ e1 ps)) ea_nil) cp_lenL).imp fun _ _ _ p => by rw [List.length_map] at p; exact p) ea_nil) (by omega)
    (fun j σ' H' => ∃ La xs a2, σ' = [some v, some (.ref La), a2, none, none, none] ∧ Ex H H' ∧ H La = none ∧ H' La = some (.lst xs) ∧ Alls ((lotsW j).map fun l => pD K (lotD l)) xs H') (fun H2 e2 => ?_) ?_ ?_
  · obtain ⟨La, xs, rfl, n1, h1, h2⟩ := p1
    exact ⟨La, xs, none, rfl, e1.trans e2, n1, e2 _ _ h1, Alls.up e2 h2⟩
  · rintro j σ' H2 hj ⟨La, xs, a2, rfl, ex2, nL, hL, aL⟩
    have hp := pow9 (k := j) (by omega)
    have ll := lotsW_len j
    have pL2 : (pLN H2 ((lotsW j).map fun l => pD K (lotD l))).p (.ref La) H2 ∨ True := .inr trivial
    refine p_asg1 (P := pLN H2 (((lotsW j).map fun l => pD K (lotD l)) ++ ((lotsW j).map fun l => pD K (lotD (l ++ [j]))))) (ep_op (P := pLN (fun _ => none) ((lotsW j).map fun l => pD K (lotD l))) (P' := pLN H2 ((lotsW j).map fun l => pD K (lotD (l ++ [j])))) (ep_var rfl ⟨La, xs, rfl, rfl, hL, aL⟩) (ep_lcLN (src := fun l => pD K (lotD l)) (ep_var rfl (show (pL K ((lotsW j).map fun l => pD K (lotD l))).p (.ref La) H2 from ⟨La, xs, rfl, SqL.of hL, aL⟩)) (by omega) (fun _ => rfl) (fun b hb x H3 e3 px => ?g1) (fun b hb => st_D (noList_lot _))) (rp_cat (by rw [List.length_map, List.length_map]; omega))) fun v3 H3 e3 p3 => ?_
    case g1 =>
      have hbl := (lotsW_lt hb).2
      unfold lotD
      rw [ofN_snoc, List.map_append]
      refine ep_op (ep_var rfl (show (pD K (.tuple ((ofN b).map .int))).p x H3 from px)) ((ep_tup (K := K) (Ps := [pI (j : Int)]) (ea_cons (ep_vi rfl) ea_nil) (by simp)).imp fun v' H' _ p' => ?_) (rp_catT (ds := (ofN b).map .int) (es := [(j : Int)].map .int) (by rw [List.length_map, ofN_len]; simp; omega))
      obtain ⟨t, us, rfl, ht, y, _, rfl, py, er⟩ := p'
      cases er
      cases py
      exact .tup ht (.cons (.int _) .nil)
    obtain ⟨Lb, ys, rfl, n3, h3, a3⟩ := p3
    refine ⟨Lb, ys, _, rfl, ex2.trans e3, fresh_back ex2 n3, h3, ?_⟩
    rw [lotsW, List.map_append, List.map_map]
    exact a3
  · rintro σ' H2 ⟨La, xs, a2, rfl, ex2, nL, hL, aL⟩
    have hp := pow9 (k := ss.length) hlen
    have ll := lotsW_len ss.length
    have dL : DpAll K H2 xs ((lotsW ss.length).map lotD) := by
      have e : ((lotsW ss.length).map fun l => pD K (lotD l)) = ((lotsW ss.length).map lotD).map (pD K) := by rw [List.map_map]; rfl
      rw [e] at aL
      exact pT_pD aL
    refine p_asg (ep_lstN (Ps := []) ea_nil (by simp)) fun v4 H3 e3 p4 => ?_
    obtain ⟨Fo, _, rfl, nF, hF, rfl⟩ := p4
    have nLF : La ≠ Fo := ne_of_none hL nF
    have nFH : H Fo = none := fresh_back ex2 nF
    refine p_forLm (P := pV (.ref La)) (ep_vv rfl) fun vx H4 e4 px => ?_
    obtain rfl : vx = V.ref La := px
    have lx := DpAll.len dL
    rw [List.length_map] at lx
    refine ⟨La, xs, rfl, e4 _ _ (e3 _ _ hL), fun j σ' H' => ∃ fs a3 a5, σ' = [some v, some (.ref La), a2, a3, some (.ref Fo), a5] ∧ Ex H H' ∧ H' La = some (.lst xs) ∧ DpAll K H' xs ((lotsW ss.length).map lotD) ∧ H' Fo = some (.lst fs) ∧ DpAll K H' fs ((lawFound ss ((lotsW ss.length).take j)).map wayD) ∧ (lawFound ss ((lotsW ss.length).take j)).length ≤ j,
      ⟨[], none, none, rfl, (ex2.trans e3).trans e4, e4 _ _ (e3 _ _ hL), DpAll.up (e3.trans e4) dL, e4 _ _ hF, .nil, by simp [lawFound]⟩, ?_, ?_, ?_⟩
    · rintro j σ' H' ⟨_, _, _, _, _, h, _⟩
      exact h
    · rintro j x σ' H5 hj ⟨fs, a3, a5, rfl, ex5, hL5, dL5, hF5, dF5, lf5⟩
      obtain ⟨d, hd1, hd2⟩ := DpAll.get dL5 hj
      rw [List.getElem?_map] at hd1
      cases el : (lotsW ss.length)[j]? with
      | none => rw [el] at hd1; cases hd1
      | some lot =>
      rw [el] at hd1
      cases hd1
      have hlt := lotsW_lt (List.mem_of_getElem? el)
      have etk : (lotsW ss.length).take (j + 1) = (lotsW ss.length).take j ++ [lot] := by rw [List.take_add_one, el]; rfl
      have hj512 : j < 512 := by
        have := (List.getElem?_eq_some_iff.mp el).1
        omega
      refine p_asg (P := pOptW K (walked ss lot)) (ep_callS (ea_cons (ep_var rfl (PD.up _ ex5 ps)) (ea_cons (ep_var rfl (show (pD K (.tuple ((ofN lot).map .int))).p x H5 from hd2)) ea_nil)) (spp (α := List Stl × List Nat) (ss, lot) ⟨hne, hlt.1, by show lot.length ≤ 20; omega⟩)) fun v5 H6 e6 p5 => ?_
      cases hwk : walked ss lot with
      | none =>
        rw [hwk] at p5
        have e0 : lawFound ss ((lotsW ss.length).take (j + 1)) = lawFound ss ((lotsW ss.length).take j) := by
          rw [etk]; unfold lawFound; rw [List.filterMap_append]; simp [hwk]
        refine s_when (b := false) (pt_B (ep_notN (P := pV .non) (b := true) (ep_var rfl p5) fun v' H' p' => ⟨fun _ => rfl, fun _ => p'⟩)) (fun z => nomatch z) fun _ H7 e7 => ?_
        exact ⟨fs, _, _, rfl, (ex5.trans e6).trans e7, e7 _ _ (e6 _ _ hL5), DpAll.up (e6.trans e7) dL5, e7 _ _ (e6 _ _ hF5), by rw [e0]; exact DpAll.up (e6.trans e7) dF5, by rw [e0]; omega⟩
      | some r =>
        rw [hwk] at p5
        obtain ⟨g1, g2, g3, g4, b, g5⟩ := walked_spec hwk
        have e0 : lawFound ss ((lotsW ss.length).take (j + 1)) = lawFound ss ((lotsW ss.length).take j) ++ [least ss r] := by
          rw [etk]; unfold lawFound; rw [List.filterMap_append]; simp [hwk]
        have p5' : (pD K (wayD r)).p v5 H6 := p5
        obtain ⟨ra, _, rfl, _, _⟩ := Dp.tup_inv (show Dp K H6 v5 (.tuple (r.map pairD)) from p5')
        have lfs := DpAll.len dF5
        rw [List.length_map] at lfs
        refine s_when (b := true) (pt_B (ep_notN (P := pV (.ref ra)) (b := false) (ep_vv rfl) fun v' H' p' => ⟨fun z => (by rw [show v' = V.ref ra from p'] at z; cases z), fun z => nomatch z⟩)) (fun _ H7 e7 => ?_) (fun z => nomatch z)
        refine p_app1 (P := pD K (wayD (least ss r))) (e7 _ _ (e6 _ _ hF5)) (ep_vv rfl) (ep_callS (ea_cons (ep_var rfl (PD.up _ ((ex5.trans e6).trans e7) ps)) (ea_cons (ep_var rfl (PD.up _ e7 p5')) ea_nil)) (spp (α := List Stl × Way) (ss, r) ⟨fun z => (by
            have z' : r = [] := z
            rw [z'] at g3
            simp at g3
            omega), by show r.length ≤ 100; omega, hne, g5.steps⟩)) (by omega) fun v8 H8 e8 p8 => ?_
        have hF8 := e8 _ _ (e7 _ _ (e6 _ _ hF5))
        refine ⟨fs ++ [v8], _, _, rfl, Ex.mut (((ex5.trans e6).trans e7).trans e8) nFH, ?_, ?_, upd_same, ?_, ?_⟩
        · rw [upd_ne nLF]
          exact e8 _ _ (e7 _ _ (e6 _ _ hL5))
        · refine DpAll.lst hF8 ?_ (DpAll.up ((e6.trans e7).trans e8) dL5)
          exact noList_pieces _
        · refine DpAll.lst hF8 (noList_ways _) ?_
          rw [e0, List.map_append]
          exact DpAll.snoc (DpAll.up ((e6.trans e7).trans e8) dF5) p8
        · rw [e0, List.length_append, List.length_singleton]; omega
    · rintro σ' H5 ⟨fs, a3, a5, rfl, ex5, hL5, dL5, hF5, dF5, lf5⟩
      rw [lx, List.take_length] at dF5
      refine p_ret (P := pD K (.list ((lawRings ss).map wayD))) (fun H6 e6 Q2 q2 => ?_) fun v6 H6 e6 p6 => k _ _ (ex5.trans e6) p6
      refine ⟨_, rfl, Fo, fs, _, rfl, SqL.of (e6 _ _ hF5), DpAll.up e6 dF5, fun b hb => ?_, fun p ys hp dy => ?_⟩
      · obtain ⟨l, hl, hb2⟩ := List.mem_filterMap.mp hb
        cases hwk : walked ss l with
        | none => rw [hwk] at hb2; cases hb2
        | some r =>
          rw [hwk] at hb2
          cases hb2
          obtain ⟨g1, _, g3, _⟩ := walked_spec hwk
          intro z
          have hrn : r ≠ [] := fun z' => by rw [z'] at g3; simp at g3; omega
          have h5 := (least_same (ss := ss) hrn).idx.length_eq
          rw [z, List.length_map, List.length_map] at h5
          simp at h5
          exact hrn (List.eq_nil_of_length_eq_zero h5.symm)
      · exact q2 _ _ (Ex.new hp) (.lst (SqL.of upd_same) (DpAll.up (Ex.new hp) dy))
end
end K43
set_option Elab.async false
set_option linter.all false
set_option maxRecDepth 100000
set_option maxHeartbeats 4000000
set_option pp.maxSteps 800
/-! k43, part FO: _law_is_uneven. -/
namespace K43
open PySem PySem.Spec L2 Evl C8
theorem eqv_rat (q r : Rat) : PyData.eqv (ratD q) (ratD r) = decide (q = r) := by
  unfold ratD
  simp only [PyData.eqv, PyData.eqvAll, Bool.and_true]
  rw [Bool.eq_iff_iff, decide_eq_true_iff, Bool.and_eq_true]
  constructor
  · rintro ⟨h1, h2⟩
    have h1 : q.num = r.num := by simpa using h1
    have h2 : (q.den : Int) = (r.den : Int) := by simpa using h2
    exact Rat.ext h1 (by omega)
  · rintro rfl
    simp
theorem shaped_rat (q : Rat) : SeqAt.shaped (ratD q) = true := by
  unfold SeqAt.shaped ratD
  simp only [PyData.canLay0, PyData.canLayAll0, PyData.depth, PyData.depthAll]
  rfl
section
variable {P : Program} {w : World} {K : PySem.W.Frag} {mg : Str → Option Value} {base : Heap} {cE cW cT : Addr} {σ : L2.St} {H : Hp} {te tx tl : TE}
def spLawUn (K : PySem.W.Frag) : Sp := spF (fun (x : (Nat × List Stl) × Way) => [pD K (.list (x.1.2.map stlD)), pD K (wayD x.2)]) (fun x => pB (uneven x.1.2 x.2)) (fun x => WOk x.1.1 x.1.2 ∧ IsRing x.1.2 x.2)
theorem ep_ratOne : EvP (tTup (tCons (tC (.int 1)) (tCons (tC (.int 1)) tNil))) σ H (pD K (ratD 1)) :=
  (ep_tup (K := K) (ea_cons ep_i (ea_cons ep_i ea_nil)) (by simp)).imp fun v H' _ p => by
    obtain ⟨a, xs, rfl, h, x, _, rfl, px, y, _, rfl, py, e⟩ := p
    cases e
    cases px
    cases py
    exact .tup h (.cons (.int _) (.cons (.int _) .nil))
theorem ok56 (T : Txt K mg cE cW) : Cal P w K mg base 4 "_law_is_uneven" (spLawUn K) [] := by
  have sc0 : FnScope ["_law_stalls_here", "_law_thing", "_law_used", "_law_pair", "_law_went", "_law_came", "_law_k", "_law_index", "_law_ware", "_law_one", "_law_other", "_law_here", "_law_beside", "_law_root"] ["_law_stalls_here", "_law_thing"] (defScope (top 56)) := ⟨rfl, rfl, rfl, by decide +kernel, rfl, by decide +kernel, by decide +kernel⟩
  refine T.d56.cal sc0 (spF_len fun _ => rfl) fun cdv f A outer s H vs Q E hr h => ?_
  obtain ⟨⟨⟨n, ss⟩, r⟩, ⟨hok, hring⟩, ⟨v, rs, rfl, ps, v2, rs2, rfl, pr, e⟩, k⟩ := h
  cases e
  replace ps : (pD K (.list (ss.map stlD))).p v H := ps
  replace pr : (pD K (.tuple (r.map pairD))).p v2 H := pr
  replace hok : WOk n ss := hok
  replace hring : IsRing ss r := hring
  replace k : ∀ v' H', Ex H H' → (pB (uneven ss r)).p v' H' → Q v' H' := k
  have rl := hring.len hok
  obtain ⟨a, hwk, hl2, hn1, hn2⟩ := id hring
  have nlp : ∀ x, noList (pairD x) = true := fun x => by simp [pairD, noList, noListAll]
  refine ⟨_, pss_cons (ps_if (PW.pt (pw_or (pt_not (pt_val (pe_callB (call_isi) (by rfl) T.b_isi (by decide +kernel) (pa_cons (pv 1) (pa_cons (pe_bltn (v := .ty "tuple") (by rfl) T.b_tuple (by decide +kernel) rfl) (pa_nil)))))) (pw_or1 (pt_cmpR op_eq (pe_callB (call_len_seq) (by rfl) T.b_len (by decide +kernel) (pa_cons (pv 1) (pa_nil))) (pe_int) (nomark _))))) (pss_one (ps_ret (pe_bl))) (pss_nil))
    (pss_cons (ps_set (i := 2) sc0.nd rfl (.inl rfl) (pe_lst (pa_nil)))
    (pss_cons (ps_for PassesOwn.never rfl (pi_tup (pv 1)) (pg_name (i := 3) sc0.nd rfl (.inl rfl)) (pss_cons (ps_if (PW.pt (pw_or (pt_not (pt_val (pe_callB (call_isi) (by rfl) T.b_isi (by decide +kernel) (pa_cons (pv 3) (pa_cons (pe_bltn (v := .ty "tuple") (by rfl) T.b_tuple (by decide +kernel) rfl) (pa_nil)))))) (pw_or (pt_cmpR op_ne (pe_callB (call_len_seq) (by rfl) T.b_len (by decide +kernel) (pa_cons (pv 3) (pa_nil))) (pe_int) (nomark _)) (pw_or (pt_not (pt_val (pe_c (ok55 T) hr (by decide) rfl (pa_cons (pe_ix ix_tup (pv 3) (pe_int) (fun _ _ => rfl)) (pa_nil))))) (pw_or1 (pt_not (pt_val (pe_c (ok55 T) hr (by decide) rfl (pa_cons (pe_ix ix_tup (pv 3) (pe_int) (fun _ _ => rfl)) (pa_nil)))))))))) (pss_one (ps_ret (pe_bl))) (pss_nil))
    (pss_cons (ps_if (PW.pt (pw_or (pt_not (pt_chain op_le op_lt (pe_int) (pe_ix ix_tup (pv 3) (pe_int) (fun _ _ => rfl)) (pe_callB (call_len_seq) (by rfl) T.b_len (by decide +kernel) (pa_cons (pv 0) (pa_nil))))) (pw_or1 (pt_cmpR op_in_seq (pe_ix ix_tup (pv 3) (pe_int) (fun _ _ => rfl)) (pv 2) rfl)))) (pss_one (ps_ret (pe_bl))) (pss_nil))
    (pss_cons (ps_expr (pe_bm PySem.F.plainAttrs_list PySem.F.slot_list_append PySem.F.type_list_append mt_append (pv 2) (pa_cons (pe_ix ix_tup (pv 3) (pe_int) (fun _ _ => rfl)) (pa_nil))))
    (pss_one (ps_if (pt_cmpR op_notIn_seq (pe_ix ix_tup (pv 3) (pe_int) (fun _ _ => rfl)) (pe_slice sl_tupA (pe_ix ix_list (pv 0) (pe_ix ix_tup (pv 3) (pe_int) (fun _ _ => rfl)) (fun _ _ => rfl)) po_none (po_some (pe_int))) rfl) (pss_one (ps_ret (pe_bl))) (pss_nil)))))))
    (pss_cons (ps_set (i := 4) sc0.nd rfl (.inl rfl) (pe_tup (pa_cons (pe_int) (pa_cons (pe_int) (pa_nil)))))
    (pss_cons (ps_set (i := 5) sc0.nd rfl (.inl rfl) (pe_tup (pa_cons (pe_int) (pa_cons (pe_int) (pa_nil)))))
    (pss_cons (ps_for PassesOwn.never rfl (pi_range1 rfl T.b_range (pa_cons (pe_callB (call_len_seq) (by rfl) T.b_len (by decide +kernel) (pa_cons (pv 1) (pa_nil))) (pa_nil))) (pg_name (i := 6) sc0.nd rfl (.inl rfl)) (pss_cons (ps_asg (pe_ix ix_tup (pv 1) (pv 6) (fun _ _ => rfl)) (pg_tup rfl (pgs_cons (pg_name (i := 7) sc0.nd rfl (.inl rfl)) (pgs_cons (pg_name (i := 8) sc0.nd rfl (.inl rfl)) (pgs_nil)))))
    (pss_cons (ps_asg (pe_ix ix_list (pv 0) (pv 7) (fun _ _ => rfl)) (pg_tup rfl (pgs_cons (pg_name (i := 9) sc0.nd rfl (.inl rfl)) (pgs_cons (pg_name (i := 10) sc0.nd rfl (.inl rfl)) (pgs_cons (pg_name (i := 11) sc0.nd rfl (.inl rfl)) (pgs_cons (pg_name (i := 12) sc0.nd rfl (.inl rfl)) (pgs_cons (pg_name (i := 13) sc0.nd rfl (.inl rfl)) (pgs_nil))))))))
    (pss_cons (ps_if (pt_cmpR op_ne (pe_op op_sub (pe_op op_add (pv 9) (pv 10)) (pv 8)) (pe_ix ix_tup (pe_ix ix_tup (pe_op op_catA (pv 1) (pv 1)) (pe_op op_add (pv 6) (pe_int)) (fun _ _ => rfl)) (pe_int) (fun _ _ => rfl)) (nomark _)) (pss_one (ps_ret (pe_bl))) (pss_nil))
    (pss_cons (ps_set (i := 4) sc0.nd rfl (.inl rfl) (pe_c (ok48 T) hr (by decide) rfl (pa_cons (pv 4) (pa_cons (pe_ix ix_list (pe_lst (pa_cons (pv 11) (pa_cons (pv 12) (pa_nil)))) (pe_callTy call_int1 (by rfl) T.b_int (by decide +kernel) (pa_cons (pe_cmpR op_eq (pv 8) (pv 10) (nomark _)) (pa_nil))) (fun _ _ => rfl)) (pa_nil)))))
    (pss_one (ps_set (i := 5) sc0.nd rfl (.inl rfl) (pe_c (ok48 T) hr (by decide) rfl (pa_cons (pv 5) (pa_cons (pe_ix ix_list (pe_lst (pa_cons (pv 12) (pa_cons (pv 11) (pa_nil)))) (pe_callTy call_int1 (by rfl) T.b_int (by decide +kernel) (pa_cons (pe_cmpR op_eq (pv 8) (pv 10) (nomark _)) (pa_nil))) (fun _ _ => rfl)) (pa_nil)))))))))))
    (pss_one (ps_ret (pe_cmpR (op_neD hr.units) (pv 4) (pv 5) (nomark _))))))))), ?_⟩
  obtain ⟨ra, xs, rfl, hra, dxs⟩ := Dp.tup_inv pr
  have xl := DpAll.len dxs
  rw [List.length_map] at xl
  obtain ⟨La, lls, rfl, hLa, dls⟩ := Dp.lst_inv ps
  refine p_pass (et_is (et_or (et_not (pt_B (ep_cb (ea_cons (ep_var rfl pr) (ea_cons ep_c ea_nil)) cp_isiT))) fun _ => pt_test (ep_op (ep_cb (ea_cons (ep_var rfl pr) ea_nil) cp_lenT) ep_i rp_eqI)) ?b0) fun H1 e1 => ?_
  case b0 =>
    rw [List.length_map]
    have : ¬ ((r.length : Nat) : Int) = 0 := by omega
    simp [this]
    intro z
    rw [z] at hl2
    simp at hl2
  refine p_asg (ep_lstN (Ps := []) ea_nil (by simp)) fun v3 H2 e2 p3 => ?_
  obtain ⟨U, _, rfl, nU, hU, rfl⟩ := p3
  have e02 := e1.trans e2
  have nUH : H U = none := fresh_back e1 nU
  refine p_forT (ep_vv rfl) hra e02 (fun j σ' H' => ∃ a3, σ' = [some (.ref La), some (.ref ra), some (.ref U), a3, none, none, none, none, none, none, none, none, none, none] ∧ Ex H H' ∧ H' U = some (.lst ((ofN ((r.take j).map (·.1))).map V.int)))
    (fun H3 e3 => ⟨none, rfl, e02.trans e3, e3 _ _ hU⟩) (fun j σ' H' ⟨_, _, h, _⟩ => h) ?_ ?_
  · rintro j x σ' H3 hj ⟨a3, rfl, ex3, hU3⟩
    obtain ⟨d, hd1, hd2⟩ := DpAll.get dxs hj
    rw [List.getElem?_map] at hd1
    cases ex : r[j]? with
    | none => rw [ex] at hd1; cases hd1
    | some y =>
    rw [ex] at hd1
    cases hd1
    obtain ⟨i, b⟩ := y
    obtain ⟨stl, hst, htc, _⟩ := hwk.at j (i, b) ex
    have hbd := hwk.touch hok (List.mem_of_getElem? ex)
    have hjl : j < r.length := (List.getElem?_eq_some_iff.mp ex).1
    have px3 : (pD K (pairD (i, b))).p x H3 := Dp.up ex3 hd2
    have ps3 := PD.up _ ex3 ps
    refine p_pass (et_is (et_or (et_not (pt_B (ep_cb (ea_cons (ep_var rfl px3) (ea_cons ep_c ea_nil)) cp_isiT))) fun _ => et_or (pt_test (ep_op (ep_cb (ea_cons (ep_var rfl px3) ea_nil) cp_lenT) ep_i rp_neI))
      fun _ => et_or (et_not (pt_B (ep_call (i : Int) trivial (ea_cons (ep_ixI (i := 0) (ep_var rfl px3) ep_i rfl) ea_nil)))) fun _ => et_not (pt_B (ep_call (b : Int) trivial (ea_cons (ep_ixI (i := 1) (ep_var rfl px3) ep_i rfl) ea_nil)))) (by rfl)) fun H4 e4 => ?_
    have px4 := PD.up _ e4 px3
    have ps4 := PD.up _ e4 ps3
    have hU4 := e4 _ _ hU3
    have hnew := idx_new hn1 ex
    refine p_pass (et_is (et_or (et_not (pt_test (ep_chain ep_i (ep_ixI (i := 0) (n := (i : Int)) (ep_var rfl px4) ep_i rfl) (ep_cb (ea_cons (ep_var rfl ps4) ea_nil) cp_lenL)))) fun _ => pt_test (ep_op (ep_ixI (i := 0) (n := (i : Int)) (ep_var rfl px4) ep_i rfl) (ep_var rfl (nats_D (K := K) hU4)) rp_inL)) ?b2) fun H5 e5 => ?_
    case b2 =>
      have h1 : ¬ ((i : Nat) : Int) ∈ ofN ((r.take j).map (·.1)) := fun z => hnew (mem_ofN.mp z)
      have h0 : i < ss.length := hbd.1
      have h2 : ((i : Nat) : Int) < ((ss.map stlD).length : Nat) := by rw [List.length_map]; omega
      have h3 : (0 : Int) ≤ (i : Int) := by omega
      rw [decide_eq_true h2, decide_eq_true h3, decide_eq_false h1]
      rfl
    have px5 := PD.up _ e5 px4
    have ex5 := (ex3.trans e4).trans e5
    refine p_app (P := pI (i : Int)) (e5 _ _ hU4) (ep_vv rfl) (ep_ixI (i := 0) (n := (i : Int)) (ep_var rfl px5) ep_i rfl) (by rw [List.length_map, ofN_len, List.length_map, List.length_take]; omega) fun v6 H6 e6 p6 => ?_
    cases p6
    have hU6 := e6 _ _ (e5 _ _ hU4)
    have ex6 := Ex.mut (o := HO.lst ((ofN ((r.take j).map (·.1))).map V.int ++ [V.int (i : Int)])) (ex5.trans e6) nUH
    have px6 : (pD K (pairD (i, b))).p x (upd H6 U (.lst ((ofN ((r.take j).map (·.1))).map V.int ++ [V.int (i : Int)]))) := Dp.up ex6 hd2
    refine s_when (b := false) (et_is (pt_test (ep_op (ep_ixI (i := 1) (n := (b : Int)) (ep_var rfl px6) ep_i rfl) (ep_slTo (n := 2) (ep_stlL (j := 0) rfl (PD.up _ ex6 ps) (ep_ixI (i := 0) (n := (i : Nat)) (ep_var rfl px6) ep_i rfl) hst) ep_i) (rp_ninT (ns := [(stl.u : Int), (stl.v : Int)])))) ?b3) (fun z => nomatch z) fun _ H8 e8 => ?_
    case b3 =>
      have : ((b : Nat) : Int) ∈ [(stl.u : Int), (stl.v : Int)] := by
        rcases htc with h | h
        · rw [show b = stl.u from h.symm]; simp
        · rw [show b = stl.v from h.symm]; simp
      simp only [this, decide_true, Bool.not_true]
    refine ⟨_, rfl, ex6.trans e8, ?_⟩
    refine e8 _ _ ?_
    rw [idx_snoc ex, List.map_append, upd_same]
    simp [ofN]
  · rintro σ' H3 ⟨a3, rfl, ex3, hU3⟩
    refine p_asg (ep_ratOne (K := K)) fun v4 H4 e4 p4 => ?_
    refine p_asg (ep_ratOne (K := K)) fun v5 H5 e5 p5 => ?_
    have ex5 := (ex3.trans e4).trans e5
    refine p_forR (n := r.length) (ea_cons ((ep_cb (ea_cons (ep_var rfl (PD.up _ ex5 pr)) ea_nil) cp_lenT).imp fun _ _ _ p => by rw [List.length_map] at p; exact p) ea_nil) (by omega)
      (fun j σ' H' => ∃ v4 v5 a6 a7 a8 a9 a10 a11 a12 a13, σ' = [some (.ref La), some (.ref ra), some (.ref U), a3, some v4, some v5, a6, a7, a8, a9, a10, a11, a12, a13] ∧ Ex H H' ∧ (pD K (ratD (hPro ss (r.take j)))).p v4 H' ∧ (pD K (ratD (tPro ss (r.take j)))).p v5 H' ∧ Sz (100 * j + 1) (hPro ss (r.take j)) ∧ Sz (100 * j + 1) (tPro ss (r.take j)))
      (fun H6 e6 => ⟨v4, v5, none, none, none, none, none, none, none, none, rfl, ex5.trans e6, PD.up _ (e5.trans e6) p4, PD.up _ e6 p5, sz_one _ (by omega), sz_one _ (by omega)⟩) ?_ ?_
    · rintro j σ' H6 hj ⟨v4, v5, a6, a7, a8, a9, a10, a11, a12, a13, rfl, ex6, ph, pt, sh, st⟩
      obtain ⟨y, ex⟩ : ∃ y, r[j]? = some y := ⟨r[j], by simp [hj]⟩
      obtain ⟨i, b⟩ := y
      obtain ⟨stl, hst, htc, hnx⟩ := hwk.at j (i, b) ex
      have so := hok.ok stl (List.mem_of_getElem? hst)
      have hh : heldAt ss (i, b) = stl.held b := heldAt_at hst
      have ho : heldAt ss (i, otherAt ss (i, b)) = stl.held (stl.other b) := by rw [otherAt_at hst, heldAt_at hst]
      have pr6 := PD.up _ ex6 pr
      -- index, ware = thing[k]
      refine q_asgG (P := pD K (pairD (i, b))) (ep_ixD (i := j) (ep_var rfl pr6) (ep_vi rfl) (by rw [List.getElem?_map, ex]; rfl)) fun v7 H7 e7 p7 => ?_
      obtain ⟨ta, us, rfl, hus, du⟩ := Dp.tup_inv (show Dp K H7 v7 (.tuple [.int i, .int b]) from p7)
      cases du with | cons du1 du => cases du with | cons du2 du =>
      cases du
      cases du1
      cases du2
      refine ⟨ta, _, rfl, hus, rfl, _, _, rfl, _, _, rfl, rfl, ?_⟩
      have ex7 := ex6.trans e7
      -- one, other, here, beside, root = stalls[index]
      refine q_asgG (P := pD K (stlD stl)) (ep_stlL (j := 0) rfl (PD.up _ ex7 ps) (ep_vi rfl) hst) fun v8 H8 e8 p8 => ?_
      obtain ⟨tb, ws, rfl, hws, dw⟩ := Dp.tup_inv (show Dp K H8 v8 (.tuple [.int stl.u, .int stl.v, ratD stl.a, ratD stl.b, ratD stl.r]) from p8)
      cases dw with | cons dw1 dw => cases dw with | cons dw2 dw => cases dw with | cons dw3 dw => cases dw with | cons dw4 dw => cases dw with | cons dw5 dw =>
      cases dw
      cases dw1
      cases dw2
      rename_i y3 y4 y5
      refine ⟨tb, _, rfl, hws, rfl, _, _, rfl, _, _, rfl, _, _, rfl, _, _, rfl, _, _, rfl, rfl, ?_⟩
      have ex8 := ex7.trans e8
      have pr8 := PD.up _ ex8 pr
      -- the next ware
      obtain ⟨y, hy⟩ : ∃ y, (r ++ r)[j + 1]? = some y := ⟨(r ++ r)[j + 1]'(by rw [List.length_append]; omega), by simp⟩
      have hyo : y.2 = stl.other b := by
        have h1 : ((r.map (·.2)) ++ [a])[j + 1]? = ((r ++ r).map (·.2))[j + 1]? := by
          rw [List.map_append]
          by_cases hjl : j + 1 < r.length
          · rw [List.getElem?_append_left (by rw [List.length_map]; exact hjl), List.getElem?_append_left (by rw [List.length_map]; exact hjl)]
          · have hjj : j + 1 = r.length := by omega
            rw [List.getElem?_append_right (by rw [List.length_map]; omega), List.getElem?_append_right (by rw [List.length_map]; omega), List.length_map, hjj, Nat.sub_self]
            have := hwk.head
            cases r with
            | nil => simp at hl2
            | cons z r' =>
              simp at this
              simp [this]
        rw [hnx, List.getElem?_map, hy] at h1
        exact (Option.some.inj h1).symm
      refine p_pass (et_is (pt_test (ep_op (ep_op (ep_op (ep_vi rfl) (ep_vi rfl) rp_I0) (ep_vi (n := (b : Int)) rfl) rp_I0) (ep_ixI (i := 1) (n := (y.2 : Int)) (ep_ixD (i := j + 1) (d := pairD y) (ds := r.map pairD ++ r.map pairD) (ep_op (ep_var rfl pr8) (ep_var rfl pr8) (rp_catT (by rw [List.length_map]; omega))) (ep_iis (ep_op (ep_vi rfl) ep_i rp_I0) (show (j : Int) + 1 = ((j + 1 : Nat) : Int) by omega)) (by rw [← List.map_append, List.getElem?_map, hy]; rfl)) ep_i rfl) rp_neI)) ?b5) fun H9 e9 => ?_
      case b5 =>
        have h1 := other_sum so.ne htc
        have h2 : (stl.u : Int) + (stl.v : Int) - (b : Int) = (y.2 : Int) := by rw [h1, hyo]
        simp only [h2, decide_true, Bool.not_true]
      have ex9 := ex8.trans e9
      have vb : ∀ {x : Bool}, decide ((b : Int) = (stl.v : Int)) = x → ([stl.a, stl.b][if x then 1 else 0]? : Option Rat) = some (stl.held b) ∧ ([stl.b, stl.a][if x then 1 else 0]? : Option Rat) = some (stl.held (stl.other b)) := by
        intro x hx
        subst hx
        unfold Stl.held Stl.other
        have hne := so.ne
        by_cases h : (b : Int) = (stl.v : Int)
        · have h2 : b = stl.v := by omega
          have h3 : ¬ stl.u = b := fun z => hne (z.trans h2)
          rw [decide_eq_true h, if_neg h3, if_neg h3, if_pos rfl]
          exact ⟨rfl, by rw [if_pos rfl]; rfl⟩
        · have h3 : stl.u = b := htc.resolve_right fun z => h (by rw [z])
          rw [decide_eq_false h, if_pos h3, if_pos h3, if_neg hne]
          exact ⟨rfl, rfl⟩
      have pick : ∀ {H' : Hp} {σ : L2.St} {i1 i2 : Nat} {x1 x2 : V} {q1 q2 q : Rat}, σ[i1]? = some (some x1) → σ[i2]? = some (some x2) → σ[8]? = some (some (.int (b : Int))) → σ[10]? = some (some (.int (stl.v : Int))) → (pD K (ratD q1)).p x1 H' → (pD K (ratD q2)).p x2 H' → ([q1, q2][if decide ((b : Int) = (stl.v : Int)) then 1 else 0]? : Option Rat) = some q →
          EvP (tOp (rIxL K) (tLst (tCons (tVar i1) (tCons (tVar i2) tNil))) (tCB (fun xs H Q => (∃ i, xs = [.int i] ∧ Q (.int i) H) ∨ ∃ k, xs = [.bl k] ∧ Q (.int (if k then 1 else 0)) H) (tCons (tOp rEq (tVar 8) (tVar 10)) tNil))) σ H' (pD K (ratD q)) := by
        intro H' σ i1 i2 x1 x2 q1 q2 q h1 h2 h8 h10 p1 p2 hq
        refine ep_op (P := pL K ([q1, q2].map fun q => pD K (ratD q))) (P' := pI ((if decide ((b : Int) = (stl.v : Int)) then 1 else 0 : Nat) : Int)) (ep_lst (ea_cons (ep_var h1 p1) (ea_cons (ep_var h2 p2) ea_nil)) (by simp)) (ep_iis (ep_cb (ea_cons (ep_op (ep_vi h8) (ep_vi h10) rp_eqI) ea_nil) cp_intB) ?_) (rp_ixLP ?_)
        · split <;> rfl
        · rw [List.getElem?_map, hq]; rfl
      refine p_asg (P := pD K (ratD (hPro ss (r.take j) * stl.held b))) (ep_callS (ea_cons (ep_var rfl (PD.up _ ((e7.trans e8).trans e9) ph)) (ea_cons (pick rfl rfl rfl rfl (Dp.up e9 dw3) (Dp.up e9 dw4) (vb rfl).1) ea_nil)) (spp (α := Rat × Rat) (hPro ss (r.take j), stl.held b) ⟨sh.mono (by omega), (so.held b).mono (by decide)⟩)) fun v10 H10 e10 p10 => ?_
      refine p_asg1 (P := pD K (ratD (tPro ss (r.take j) * stl.held (stl.other b)))) (ep_callS (ea_cons (ep_var rfl (PD.up _ (((e7.trans e8).trans e9).trans e10) pt)) (ea_cons (pick rfl rfl rfl rfl (Dp.up (e9.trans e10) dw4) (Dp.up (e9.trans e10) dw3) (vb rfl).2) ea_nil)) (spp (α := Rat × Rat) (tPro ss (r.take j), stl.held (stl.other b)) ⟨st.mono (by omega), (so.held _).mono (by decide)⟩)) fun v11 H11 e11 p11 => ?_
      refine ⟨_, _, _, _, _, _, _, _, _, _, rfl, (ex9.trans e10).trans e11, ?_, ?_, ?_, ?_⟩
      · rw [hPro_snoc ex, hh]; exact PD.up _ e11 p10
      · rw [tPro_snoc ex, ho]; exact p11
      · rw [hPro_snoc ex, hh]; exact (sz_mul sh (so.held b)).mono (by omega)
      · rw [tPro_snoc ex, ho]; exact (sz_mul st (so.held _)).mono (by omega)
    · rintro σ' H6 ⟨v4, v5, a6, a7, a8, a9, a10, a11, a12, a13, rfl, ex6, ph, pt, sh, st⟩
      rw [List.take_length] at ph pt
      refine p_ret (ep_bis (ep_op (ep_var rfl ph) (ep_var rfl pt) (rp_neD (shaped_rat _) (shaped_rat _))) ?_) fun v7 H7 e7 p7 => k _ _ (ex6.trans e7) p7
      rw [eqv_rat]
      rfl
end
end K43
set_option Elab.async false
set_option linter.all false
set_option maxRecDepth 100000
set_option maxHeartbeats 4000000
/-! k43, part M2: the law's list of rings is the list of rings. -/
namespace K43
open PySem PySem.Spec L2 Evl C8

/-! ### the lots -/
theorem lotsW_sorted : ∀ {k : Nat} {l : List Nat}, l ∈ lotsW k → l.Pairwise (· < ·)
  | 0, l, h => by rw [List.mem_singleton.mp h]; exact .nil
  | k + 1, l, h => by
    rcases List.mem_append.mp h with q | q
    · exact lotsW_sorted q
    · obtain ⟨l', hl', rfl⟩ := List.mem_map.mp q
      rw [List.pairwise_append]
      refine ⟨lotsW_sorted hl', List.pairwise_singleton _ _, fun a ha b hb => ?_⟩
      rw [List.mem_singleton.mp hb]
      exact (lotsW_lt hl').1 a ha
theorem lotsW_in : ∀ {k : Nat} {l : List Nat}, l.Pairwise (· < ·) → (∀ i ∈ l, i < k) → l ∈ lotsW k
  | 0, l, _, h => by
    cases l with
    | nil => exact List.mem_singleton.mpr rfl
    | cons a l => exact absurd (h a (List.mem_cons_self ..)) (Nat.not_lt_zero _)
  | k + 1, l, hs, h => by
    rcases List.eq_nil_or_concat l with rfl | ⟨l', x, rfl⟩
    · exact List.mem_append_left _ (lotsW_in .nil (by simp))
    · rw [List.concat_eq_append] at hs h ⊢
      rw [List.pairwise_append] at hs
      have hx := h x (by simp)
      by_cases hxk : x = k
      · subst hxk
        refine List.mem_append_right _ (List.mem_map.mpr ⟨l', lotsW_in hs.1 fun i hi => hs.2.2 i hi x (by simp), rfl⟩)
      · refine List.mem_append_left _ (lotsW_in (List.pairwise_append.mpr hs) fun i hi => ?_)
        rcases List.mem_append.mp hi with q | q
        · have := hs.2.2 i q x (by simp)
          omega
        · rw [List.mem_singleton.mp q]; omega
theorem lotsW_nodup : ∀ k : Nat, (lotsW k).Nodup
  | 0 => by simp [lotsW]
  | k + 1 => by
    rw [lotsW, List.nodup_append]
    refine ⟨lotsW_nodup k, (lotsW_nodup k).map (f := fun l => l ++ [k]) (fun a b h q => h (List.append_cancel_right q)), fun a ha b hb q => ?_⟩
    subst q
    obtain ⟨l', _, rfl⟩ := List.mem_map.mp hb
    have := (lotsW_lt ha).1 k (by simp)
    omega
theorem sorted_nodup {l : List Nat} (h : l.Pairwise (· < ·)) : l.Nodup := h.imp fun h => Nat.ne_of_lt h
theorem sorted_perm {l m : List Nat} (h1 : l.Pairwise (· < ·)) (h2 : m.Pairwise (· < ·)) (h : l.Perm m) : l = m :=
  List.Perm.eq_of_pairwise (le := fun a b => a < b) (fun a b _ _ h1 h2 => absurd h1 (by omega)) h1 h2 h

/-! ### degrees -/
def deg (ss : List Stl) (l : List Nat) (w : Nat) : Nat := (l.filter (touchB ss w)).length
theorem touchB_iff {ss : List Stl} {w i : Nat} : touchB ss w i = true ↔ ∃ s, ss[i]? = some s ∧ s.touch w := by
  constructor
  · exact touchB_at
  · rintro ⟨s, h1, h2⟩
    unfold touchB
    rw [h1]
    simpa [Stl.touch] using h2
theorem count_ends {ss : List Stl} (hne : Ne ss) {w : Nat} : ∀ {l : List Nat}, (∀ i ∈ l, i < ss.length) → (ends ss l).count w = deg ss l w
  | [], _ => rfl
  | i :: l, h => by
    have ih := count_ends hne (w := w) fun j hj => h j (List.mem_cons_of_mem _ hj)
    have hi := h i (List.mem_cons_self ..)
    obtain ⟨s, hs⟩ : ∃ s, ss[i]? = some s := ⟨ss[i], by simp [hi]⟩
    have hn := hne s (List.mem_of_getElem? hs)
    unfold ends at ih ⊢
    unfold deg at ih ⊢
    rw [List.count_append] at ih
    rw [List.map_cons, List.map_cons, List.count_append, List.count_cons, List.count_cons]
    have hu : uAt ss i = s.u := by unfold uAt; rw [hs]
    have hv : vAt ss i = s.v := by unfold vAt; rw [hs]
    have ht : touchB ss w i = (decide (s.u = w) || decide (s.v = w)) := by unfold touchB; rw [hs]
    rw [List.filter_cons, ht, hu, hv]
    by_cases h1 : s.u = w
    · have h2 : ¬ s.v = w := fun z => hn (h1.trans z.symm)
      simp [h1, h2]
      omega
    · by_cases h2 : s.v = w
      · simp [h1, h2]
        omega
      · simp [h1, h2]
        omega
theorem deg_perm {ss : List Stl} {l m : List Nat} {w : Nat} (h : l.Perm m) : deg ss l w = deg ss m w := (h.filter _).length_eq
theorem ends_mem {ss : List Stl} {l : List Nat} {i w : Nat} (hi : i ∈ l) (h : touchB ss w i = true) : w ∈ ends ss l := by
  obtain ⟨s, hs, ht⟩ := touchB_iff.mp h
  unfold ends
  rcases ht with h1 | h1
  · refine List.mem_append_left _ (List.mem_map.mpr ⟨i, hi, ?_⟩)
    unfold uAt; rw [hs]; exact h1
  · refine List.mem_append_right _ (List.mem_map.mpr ⟨i, hi, ?_⟩)
    unfold vAt; rw [hs]; exact h1
/-- three steps at one ware are too many -/
theorem three {ss : List Stl} {r : Way} {w : Nat} (hn : (r.map (·.1)).Nodup) (hd : deg ss (r.map (·.1)) w = 2) {p q s : Nat} {x y z : Nat × Nat} (hx : r[p]? = some x) (hy : r[q]? = some y) (hz : r[s]? = some z) (hpq : p ≠ q) (hps : p ≠ s) (hqs : q ≠ s)
    (tx : touchB ss w x.1 = true) (ty : touchB ss w y.1 = true) (tz : touchB ss w z.1 = true) : False := by
  have ne : ∀ {i j : Nat} {a b : Nat × Nat}, r[i]? = some a → r[j]? = some b → i ≠ j → a.1 ≠ b.1 := by
    intro i j a b ha hb hij z
    have h1 : (r.map (·.1))[i]? = some a.1 := by rw [List.getElem?_map, ha]; rfl
    have h2 : (r.map (·.1))[j]? = some a.1 := by rw [List.getElem?_map, hb, z]; rfl
    exact hij (nd_ix hn h1 h2)
  have mem : ∀ {i : Nat} {a : Nat × Nat}, r[i]? = some a → a.1 ∈ r.map (·.1) := fun {i a} ha => List.mem_map_of_mem (List.mem_of_getElem? ha)
  have h3 : [x.1, y.1, z.1].Nodup := by
    simp [ne hx hy hpq, ne hx hz hps, ne hy hz hqs]
  have := nodup_len h3 (m := (r.map (·.1)).filter (touchB ss w)) fun a ha => by
    simp only [List.mem_cons, List.not_mem_nil, or_false] at ha
    rcases ha with rfl | rfl | rfl
    · exact List.mem_filter.mpr ⟨mem hx, tx⟩
    · exact List.mem_filter.mpr ⟨mem hy, ty⟩
    · exact List.mem_filter.mpr ⟨mem hz, tz⟩
  unfold deg at hd
  rw [hd] at this
  simp at this
/-- the steps of a way, by places -/
theorem IsWalk.next {ss : List Stl} {a b : Nat} {r : Way} (h : IsWalk ss a r b) {k : Nat} {x y : Nat × Nat} (hx : r[k]? = some x) (hy : r[k + 1]? = some y) : ∃ s, ss[x.1]? = some s ∧ s.touch x.2 ∧ s.other x.2 = y.2 := by
  obtain ⟨s, h1, h2, h3⟩ := h.at k x hx
  refine ⟨s, h1, h2, ?_⟩
  have hl := (List.getElem?_eq_some_iff.mp hy).1
  rw [List.getElem?_append_left (by rw [List.length_map]; exact hl), List.getElem?_map, hy] at h3
  exact (Option.some.inj h3).symm
theorem IsWalk.last {ss : List Stl} {a b : Nat} {r : Way} (h : IsWalk ss a r b) {k : Nat} {x : Nat × Nat} (hx : r[k]? = some x) (hk : k + 1 = r.length) : ∃ s, ss[x.1]? = some s ∧ s.touch x.2 ∧ s.other x.2 = b := by
  obtain ⟨s, h1, h2, h3⟩ := h.at k x hx
  refine ⟨s, h1, h2, ?_⟩
  rw [List.getElem?_append_right (by rw [List.length_map]; omega), List.length_map, hk, Nat.sub_self] at h3
  exact (Option.some.inj h3).symm
theorem touch_here {ss : List Stl} {s : Stl} {i w : Nat} (hs : ss[i]? = some s) (ht : s.touch w) : touchB ss w i = true := touchB_iff.mpr ⟨s, hs, ht⟩
theorem Stl.other_ne {s : Stl} (hne : s.u ≠ s.v) {b : Nat} (ht : s.touch b) : s.other b ≠ b := by
  unfold Stl.other
  rcases ht with h | h
  · rw [if_pos h]
    exact fun z => hne (h.trans z.symm)
  · rw [if_neg fun z => hne (z.trans h.symm)]
    exact fun z => hne (z.trans h.symm)
theorem walked_ring {ss : List Stl} (hne : Ne ss) {lot : List Nat} (hs : lot.Pairwise (· < ·)) (hlt : ∀ i ∈ lot, i < ss.length) {r : Way} (h : walked ss lot = some r) : IsRing ss r := by
  obtain ⟨h2, hc, hl, hp, b, hw⟩ := walked_spec h
  generalize ha : uAt ss (lot.headD 0) = a at hw
  have hn1 : (r.map (·.1)).Nodup := hp.nodup (sorted_nodup hs)
  have hd : ∀ w, (∃ i ∈ r.map (·.1), touchB ss w i = true) → deg ss (r.map (·.1)) w = 2 := by
    rintro w ⟨i, hi, ht⟩
    rw [← deg_perm hp, ← count_ends hne hlt]
    exact hc w (ends_mem (hp.mem_iff.mpr hi) ht)
  have at_ : ∀ {k : Nat}, k < r.length → ∃ x, r[k]? = some x := fun {k} hk => ⟨r[k], by simp [hk]⟩
  have mem : ∀ {i : Nat} {x : Nat × Nat}, r[i]? = some x → x.1 ∈ r.map (·.1) := fun {i x} hx => List.mem_map_of_mem (List.mem_of_getElem? hx)
  -- no ware twice
  have key : ∀ {p q : Nat} {x y : Nat × Nat}, r[p]? = some x → r[q]? = some y → p < q → x.2 = y.2 → False := by
    intro p q x y hx hy hpq e
    have hql := (List.getElem?_eq_some_iff.mp hy).1
    obtain ⟨z, hz⟩ := at_ (k := q - 1) (by omega)
    obtain ⟨s1, a1, a2, a3⟩ := hw.next hz (show r[q - 1 + 1]? = some y by rw [Nat.sub_add_cancel (by omega)]; exact hy)
    have hn := hne s1 (List.mem_of_getElem? a1)
    obtain ⟨sy, b1, b2, _⟩ := hw.at q y hy
    by_cases hpz : p = q - 1
    · subst hpz
      rw [hx] at hz
      cases hz
      exact Stl.other_ne hn a2 (a3.trans e.symm)
    · obtain ⟨sx, c1, c2, _⟩ := hw.at p x hx
      have tx := touch_here c1 c2
      have ty := touch_here b1 b2
      have tz : touchB ss y.2 z.1 = true := touch_here a1 (a3 ▸ (Stl.other_other hn a2).2)
      rw [e] at tx
      exact three hn1 (hd y.2 ⟨_, mem hy, ty⟩) hx hz hy (by omega) (by omega) (by omega) tx tz ty
  have hn2 : (r.map (·.2)).Nodup := by
    rw [List.nodup_iff_pairwise_ne, List.pairwise_iff_getElem]
    intro i j hi hj hij z
    rw [List.length_map] at hi hj
    obtain ⟨x, hx⟩ := at_ hi
    obtain ⟨y, hy⟩ := at_ hj
    refine key hx hy hij ?_
    have e1 := List.getElem?_eq_some_iff.mp hx
    have e2 := List.getElem?_eq_some_iff.mp hy
    rw [List.getElem_map, List.getElem_map, e1.2, e2.2] at z
    exact z
  refine ⟨a, ?_, by omega, hn1, hn2⟩
  -- the end is the start
  have hk : r.length - 1 + 1 = r.length := by omega
  obtain ⟨x, hx⟩ := at_ (k := r.length - 1) (by omega)
  obtain ⟨s, a1, a2, a3⟩ := hw.last hx hk
  have hn := hne s (List.mem_of_getElem? a1)
  have tl : touchB ss b x.1 = true := touch_here a1 (a3 ▸ (Stl.other_other hn a2).2)
  have hdb := hd b ⟨_, mem hx, tl⟩
  obtain ⟨m, y, hym, hmy, ty⟩ : ∃ (m : Nat) (y : Nat × Nat), r[m]? = some y ∧ m ≠ r.length - 1 ∧ touchB ss b y.1 = true := by
    apply Classical.byContradiction
    intro hno
    have : deg ss (r.map (·.1)) b ≤ 1 := by
      unfold deg
      have h1 := nodup_len (l := (r.map (·.1)).filter (touchB ss b)) (m := [x.1]) ((List.filter_sublist).nodup hn1) fun i hi => by
        obtain ⟨g1, g2⟩ := List.mem_filter.mp hi
        obtain ⟨y, hy, rfl⟩ := List.mem_map.mp g1
        obtain ⟨m, hm⟩ := List.getElem?_of_mem hy
        by_cases hmx : m = r.length - 1
        · subst hmx
          rw [hx] at hm
          cases hm
          simp
        · exact absurd ⟨m, y, hm, hmx, g2⟩ hno
      simpa using h1
    omega
  have hml := (List.getElem?_eq_some_iff.mp hym).1
  obtain ⟨sy, c1, c2, _⟩ := hw.at m y hym
  obtain ⟨y', hy'⟩ := at_ (k := m + 1) (by omega)
  obtain ⟨sy2, d1, d2, d3⟩ := hw.next hym hy'
  rw [c1] at d1
  cases d1
  have hny := hne sy (List.mem_of_getElem? c1)
  obtain ⟨sy3, f1, f2⟩ := touchB_iff.mp ty
  rw [c1] at f1
  cases f1
  have two : b = y.2 ∨ b = y'.2 := by
    rw [← d3]
    unfold Stl.other
    rcases f2 with f2 | f2
    · by_cases hu : sy.u = y.2
      · left; omega
      · right; rw [if_neg hu]; omega
    · by_cases hu : sy.u = y.2
      · right; rw [if_pos hu]; omega
      · left
        have := c2.resolve_left hu
        omega
  rcases two with e | e
  · by_cases hm0 : m = 0
    · subst hm0
      have hh := hw.head
      rw [List.getElem?_append_left (by rw [List.length_map]; omega), List.getElem?_map, hym] at hh
      have : y.2 = a := Option.some.inj hh
      rw [← this, ← e]
      rw [this] at e
      rw [← e] at hw
      exact hw
    · exfalso
      obtain ⟨z, hz⟩ := at_ (k := m - 1) (by omega)
      obtain ⟨s1, g1, g2, g3⟩ := hw.next hz (show r[m - 1 + 1]? = some y by rw [Nat.sub_add_cancel (by omega)]; exact hym)
      have hn1' := hne s1 (List.mem_of_getElem? g1)
      have tz : touchB ss b z.1 = true := touch_here g1 (by rw [e, ← g3]; exact (Stl.other_other hn1' g2).2)
      exact three hn1 hdb hz hym hx (by omega) (by omega) (by omega) tz ty tl
  · exfalso
    by_cases hm1 : m + 1 = r.length - 1
    · rw [hm1, hx] at hy'
      cases hy'
      exact Stl.other_ne hn a2 (a3.trans e)
    · obtain ⟨s1, g1, g2, _⟩ := hw.at (m + 1) y' hy'
      have ty' : touchB ss b y'.1 = true := touch_here g1 (e ▸ g2)
      exact three hn1 hdb hym hy' hx (by omega) (by omega) (by omega) ty ty' tl
end K43
set_option Elab.async false
set_option linter.all false
set_option maxRecDepth 100000
set_option maxHeartbeats 4000000
/-! k43, part M3: every ring is walked by the law; the two lists of rings are one. -/
namespace K43
open PySem PySem.Spec L2 Evl C8

/-- the law's loop follows a ring -/
theorem wloop_follow {ss : List Stl} (hne : Ne ss) {a : Nat} : ∀ (todo : Way) (dn : Way) (x : Nat × Nat) (left : List Nat) (f : Way), IsWalk ss a (dn ++ x :: todo) a → ((dn ++ x :: todo).map (·.1)).Nodup → ((dn ++ x :: todo).map (·.2)).Nodup → left.Nodup → (∀ i, i ∈ left ↔ i ∈ (x :: todo).map (·.1)) →
    (dn = [] → ∃ rest, left = x.1 :: rest) → wloop ss (todo.length + 1) x.2 left f = some (f ++ x :: todo) := by
  intro todo
  induction todo with
  | nil =>
    intro dn x left f hw n1 n2 hl hm hd
    obtain ⟨s, h1, h2, _⟩ := hw.at dn.length x (by simp)
    have ht := touch_here h1 h2
    have hone : ∃ rest, left.filter (touchB ss x.2) = x.1 :: rest := by
      cases hf : left.filter (touchB ss x.2) with
      | nil =>
        have : x.1 ∈ left.filter (touchB ss x.2) := List.mem_filter.mpr ⟨(hm _).mpr (by simp), ht⟩
        rw [hf] at this
        cases this
      | cons i rest =>
        have hi := (filter_first hf).1
        have := (hm i).mp hi
        simp at this
        exact ⟨rest, by rw [this]⟩
    obtain ⟨rest, hr⟩ := hone
    unfold wloop
    rw [hr]
    rfl
  | cons y todo ih =>
    intro dn x left f hw n1 n2 hl hm hd
    obtain ⟨s, h1, h2, h3⟩ := hw.next (k := dn.length) (x := x) (y := y) (by simp) (by rw [List.getElem?_append_right (by omega)]; simp)
    have ht := touch_here h1 h2
    -- the only one left that touches is x's own
    have only : dn ≠ [] → ∀ i ∈ left, touchB ss x.2 i = true → i = x.1 := by
      intro hdn i hi hti
      have hi2 := (hm i).mp hi
      rw [List.map_cons] at hi2
      rcases List.mem_cons.mp hi2 with h | h
      · exact h
      · exfalso
        obtain ⟨z, hz, hzi⟩ := List.mem_map.mp h
        subst hzi
        obtain ⟨q, hq⟩ := List.getElem?_of_mem hz
        have hq2 : (dn ++ x :: y :: todo)[dn.length + 1 + q]? = some z := by
          rw [List.getElem?_append_right (by omega), show dn.length + 1 + q - dn.length = q + 1 by omega]
          exact hq
        have hx2 : (dn ++ x :: y :: todo)[dn.length]? = some x := by simp
        have wix : ∀ {i j : Nat} {c e : Nat × Nat}, (dn ++ x :: y :: todo)[i]? = some c → (dn ++ x :: y :: todo)[j]? = some e → c.2 = e.2 → i = j := by
          intro i j c e hc he hce
          have g1 : ((dn ++ x :: y :: todo).map (·.2))[i]? = some c.2 := by rw [List.getElem?_map, hc]; rfl
          have g2 : ((dn ++ x :: y :: todo).map (·.2))[j]? = some c.2 := by rw [List.getElem?_map, he, hce]; rfl
          exact nd_ix n2 g1 g2
        obtain ⟨sz, b1, b2, b3⟩ := hw.at _ _ hq2
        obtain ⟨sz', b1', b4⟩ := touchB_iff.mp hti
        rw [b1] at b1'
        cases b1'
        have hnz := hne sz (List.mem_of_getElem? b1)
        have two : x.2 = z.2 ∨ x.2 = sz.other z.2 := by
          unfold Stl.other
          rcases b4 with b4 | b4
          · by_cases hu : sz.u = z.2
            · left; omega
            · right; rw [if_neg hu]; omega
          · by_cases hu : sz.u = z.2
            · right; rw [if_pos hu]; omega
            · left
              have := b2.resolve_left hu
              omega
        rcases two with e | e
        · have := wix hx2 hq2 e
          omega
        · by_cases hlast : dn.length + 1 + q + 1 = (dn ++ x :: y :: todo).length
          · obtain ⟨sl, c1, c2, c3⟩ := hw.last hq2 hlast
            rw [b1] at c1
            cases c1
            have hh := hw.head
            obtain ⟨d0, dn', rfl⟩ : ∃ d0 dn', dn = d0 :: dn' := by
              cases dn with
              | nil => exact absurd rfl hdn
              | cons d0 dn' => exact ⟨d0, dn', rfl⟩
            have h0 : ((d0 :: dn') ++ x :: y :: todo)[0]? = some d0 := rfl
            have ha : d0.2 = a := by
              simp at hh
              exact hh
            have := wix h0 hx2 (by rw [ha, ← c3, ← e])
            simp at this
          · obtain ⟨z', hz'⟩ : ∃ z', (dn ++ x :: y :: todo)[dn.length + 1 + q + 1]? = some z' := by
              have hl := (List.getElem?_eq_some_iff.mp hq2).1
              have : dn.length + 1 + q + 1 < (dn ++ x :: y :: todo).length := by omega
              exact ⟨(dn ++ x :: y :: todo)[dn.length + 1 + q + 1], by simp [this]⟩
            obtain ⟨sl, c1, c2, c3⟩ := hw.next hq2 hz'
            rw [b1] at c1
            cases c1
            have := wix hx2 hz' (by rw [← c3, ← e])
            omega
    have hone : ∃ rest, left.filter (touchB ss x.2) = x.1 :: rest := by
      by_cases hdn : dn = []
      · obtain ⟨rest, hr⟩ := hd hdn
        rw [hr, List.filter_cons, if_pos ht]
        exact ⟨_, rfl⟩
      · cases hf : left.filter (touchB ss x.2) with
        | nil =>
          have : x.1 ∈ left.filter (touchB ss x.2) := List.mem_filter.mpr ⟨(hm _).mpr (by simp), ht⟩
          rw [hf] at this
          cases this
        | cons i rest =>
          obtain ⟨g1, g2⟩ := filter_first hf
          exact ⟨rest, by rw [only hdn i g1 g2]⟩
    obtain ⟨rest, hr⟩ := hone
    have e1 : wloop ss ((y :: todo).length + 1) x.2 left f = wloop ss (todo.length + 1) (otherAt ss (x.1, x.2)) (left.erase x.1) (f ++ [(x.1, x.2)]) := by
      show wloop ss (todo.length + 1 + 1) x.2 left f = _
      conv => lhs; unfold wloop
      rw [hr]
    have e2 : otherAt ss (x.1, x.2) = y.2 := by rw [otherAt_at h1]; exact h3
    have e3 : dn ++ x :: y :: todo = (dn ++ [x]) ++ y :: todo := by simp
    rw [e1, e2]
    rw [e3] at hw n1 n2
    rw [ih (dn ++ [x]) y (left.erase x.1) (f ++ [(x.1, x.2)]) hw n1 n2 (hl.erase _) ?_ (fun z => absurd z (by simp))]
    · simp
    · intro i
      have n1' : (x.1 :: (y :: todo).map (·.1)).Nodup := by
        have : ((dn ++ [x] ++ y :: todo).map (·.1)).Nodup := n1
        rw [List.append_assoc, List.map_append, List.nodup_append] at this
        exact this.2.1
      rw [hl.mem_erase_iff, hm i, List.map_cons, List.mem_cons]
      constructor
      · rintro ⟨g1, g2 | g2⟩
        · exact absurd g2 g1
        · exact g2
      · intro g
        refine ⟨fun z => ?_, .inr g⟩
        subst z
        exact (List.nodup_cons.mp n1').1 g
/-- the degree of a ring's wares -/
theorem ring_ends {ss : List Stl} (hne : Ne ss) {r : Way} (hr : IsRing ss r) : ∀ w ∈ ends ss (r.map (·.1)), (ends ss (r.map (·.1))).count w = 2 := by
  obtain ⟨a, hw, hl, n1, n2⟩ := hr
  have key : ∀ (q : Way), Steps ss q → ∀ w, (ends ss (q.map (·.1))).count w = (q.map (·.2)).count w + (q.map (otherAt ss)).count w := by
    intro q
    induction q with
    | nil => intro _ w; rfl
    | cons x q ih =>
      intro hq w
      have ih' := ih (fun y hy => hq y (List.mem_cons_of_mem _ hy)) w
      obtain ⟨s, hs, ht⟩ := hq x (List.mem_cons_self ..)
      have hu : uAt ss x.1 = s.u := by unfold uAt; rw [hs]
      have hv : vAt ss x.1 = s.v := by unfold vAt; rw [hs]
      have ho : otherAt ss x = s.other x.2 := otherAt_at (b := x.2) hs
      unfold ends at ih' ⊢
      rw [List.count_append] at ih' ⊢
      simp only [List.map_cons, List.count_cons, hu, hv, ho]
      unfold Stl.other
      rcases ht with ht | ht
      · rw [if_pos ht, ht]
        omega
      · by_cases hu2 : s.u = x.2
        · rw [if_pos hu2, hu2]
          omega
        · rw [if_neg hu2, ht]
          omega
  have hoth : (r.map (otherAt ss)).Perm (r.map (·.2)) := by
    rw [others_eq hw]
    have hh := hw.head
    cases r with
    | nil => simp at hl
    | cons x r =>
      simp at hh
      simp only [List.map_cons, List.cons_append, List.drop_succ_cons, List.drop_zero]
      rw [← hh]
      exact List.perm_append_comm
  intro w hwm
  rw [key r hw.steps w, hoth.count_eq]
  have hmem : w ∈ r.map (·.2) := by
    apply Classical.byContradiction
    intro z
    have h0 := key r hw.steps w
    rw [hoth.count_eq, List.count_eq_zero.mpr z] at h0
    have := List.count_pos_iff.mpr hwm
    omega
  have := n2.count (a := w)
  rw [if_pos hmem] at this
  omega
theorem ring_lt {ss : List Stl} {r : Way} (hr : IsRing ss r) : ∀ i ∈ r.map (·.1), i < ss.length := fun i hi => by
  obtain ⟨a, hw, _⟩ := hr
  obtain ⟨x, hx, rfl⟩ := List.mem_map.mp hi
  obtain ⟨s, h1, _⟩ := hw.steps x hx
  exact (List.getElem?_eq_some_iff.mp h1).1
theorem ring_walked {ss : List Stl} (hne : Ne ss) {r : Way} (hr : IsRing ss r) {lot : List Nat} (hs : lot.Pairwise (· < ·)) (hp : lot.Perm (r.map (·.1))) : ∃ r', walked ss lot = some r' ∧ Same2 ss r r' := by
  have hlt : ∀ i ∈ lot, i < ss.length := fun i hi => ring_lt hr i (hp.mem_iff.mp hi)
  have hll : lot.length = r.length := by rw [hp.length_eq, List.length_map]
  have hl2 : 2 ≤ r.length := by obtain ⟨a, _, h, _⟩ := hr; exact h
  -- the lot may be walked
  have hcnt : ∀ w ∈ ends ss lot, (ends ss lot).count w = 2 := by
    have hpe : (ends ss lot).Perm (ends ss (r.map (·.1))) := by
      unfold ends
      exact (hp.map _).append (hp.map _)
    intro w hw
    rw [hpe.count_eq]
    exact ring_ends hne hr w (hpe.mem_iff.mp hw)
  have hw0 : walked ss lot = wloop ss lot.length (uAt ss (lot.headD 0)) lot [] := by
    unfold walked
    rw [if_neg]
    rw [Bool.or_eq_true, not_or]
    refine ⟨by rw [decide_eq_true_iff]; omega, fun z => ?_⟩
    obtain ⟨w, h1, h2⟩ := List.any_eq_true.mp z
    rw [hcnt w h1] at h2
    cases h2
  obtain ⟨i0, lot', rfl⟩ : ∃ i0 lot', lot = i0 :: lot' := by
    cases lot with
    | nil => simp at hll; omega
    | cons a b => exact ⟨a, b, rfl⟩
  -- turned so that it starts with i0 at its first ware
  obtain ⟨todo, hsame⟩ : ∃ todo, Same2 ss r ((i0, uAt ss i0) :: todo) := by
    have hi0 : i0 ∈ r.map (·.1) := hp.mem_iff.mp (List.mem_cons_self ..)
    obtain ⟨x, hx, hxi⟩ := List.mem_map.mp hi0
    obtain ⟨p, q, hpq⟩ := List.append_of_mem hx
    obtain ⟨a, hw, _⟩ := id hr
    obtain ⟨s, h1, h2⟩ := hw.steps x hx
    have hu : uAt ss i0 = s.u := by unfold uAt; rw [← hxi, h1]
    have hrot : Rot r (x :: q ++ p) := ⟨p, x :: q, hpq, rfl⟩
    by_cases hxu : s.u = x.2
    · refine ⟨q ++ p, .inl ?_⟩
      have : x = (i0, uAt ss i0) := Prod.ext hxi (by rw [hu, hxu])
      rw [← this]
      exact hrot
    · refine ⟨back ss (q ++ p), .inr ?_⟩
      have hb := hrot.back (ss := ss)
      have e1 : back ss (x :: q ++ p) = back ss (q ++ p) ++ [(i0, uAt ss i0)] := by
        rw [show x :: q ++ p = [x] ++ (q ++ p) from rfl, back_app]
        congr 1
        unfold back
        have : otherAt ss x = s.u := by
          rw [otherAt_at (b := x.2) h1]
          unfold Stl.other
          rw [if_neg hxu]
        simp [this, hu, hxi]
      rw [e1] at hb
      exact hb.trans ⟨back ss (q ++ p), [(i0, uAt ss i0)], rfl, rfl⟩
  have hr' := hsame.ring hne hr
  have hidx := hsame.idx
  obtain ⟨a, hw', hl', n1', n2'⟩ := hr'
  refine ⟨(i0, uAt ss i0) :: todo, ?_, hsame⟩
  have hlen : (i0 :: lot').length = todo.length + 1 := by
    rw [hll]
    have := hidx.length_eq
    rw [List.length_map, List.length_map, List.length_cons] at this
    omega
  rw [hw0, hlen]
  have := wloop_follow hne (a := a) todo [] (i0, uAt ss i0) (i0 :: lot') [] hw' n1' n2' (sorted_nodup hs) (fun i => by
    rw [hp.mem_iff]
    exact hidx.mem_iff.symm) (fun _ => ⟨lot', rfl⟩)
  rw [List.nil_append] at this
  exact this
/-- a strictly sorted list of the same -/
theorem sort_lt {l : List Nat} (h : l.Nodup) : (l.mergeSort (fun a b => decide (a ≤ b))).Pairwise (· < ·) ∧ (l.mergeSort (fun a b => decide (a ≤ b))).Perm l := by
  have hp := List.mergeSort_perm l (fun a b => decide (a ≤ b))
  refine ⟨?_, hp⟩
  have h1 := List.pairwise_mergeSort (le := fun (a b : Nat) => decide (a ≤ b)) (fun a b c h1 h2 => decide_eq_true (Nat.le_trans (of_decide_eq_true h1) (of_decide_eq_true h2))) (fun a b => by
    rw [Bool.or_eq_true, decide_eq_true_iff, decide_eq_true_iff]
    omega) l
  have h2 : (l.mergeSort (fun a b => decide (a ≤ b))).Nodup := hp.symm.nodup h
  have h3 := h1.and h2
  refine h3.imp fun {a b} h => ?_
  have := of_decide_eq_true h.1
  have := h.2
  omega
theorem rings_law {ss : List Stl} (hne : Ne ss) : RingsOf ss (lawRings ss) where
  sort := List.pairwise_mergeSort (le := wle) (fun a b c => wle_trans) wle_total _
  nd := by
    refine (List.mergeSort_perm _ wle).symm.nodup ?_
    unfold lawFound
    rw [List.nodup_iff_pairwise_ne, List.pairwise_filterMap]
    refine List.Pairwise.imp_of_mem ?_ (List.nodup_iff_pairwise_ne.mp (lotsW_nodup ss.length))
    intro l m hl hm hlm x hx y hy hxy
    subst hxy
    have get : ∀ {l : List Nat}, l ∈ lotsW ss.length → (walked ss l).map (least ss) = some x → l.Perm (x.map (·.1)) := by
      intro l hl hx
      cases hwk : walked ss l with
      | none => rw [hwk] at hx; cases hx
      | some r =>
        rw [hwk] at hx
        cases hx
        obtain ⟨_, _, g3, g4, _⟩ := walked_spec hwk
        have hr := walked_ring hne (lotsW_sorted hl) (lotsW_lt hl).1 hwk
        exact g4.trans (least_same (ss := ss) hr.ne).idx.symm
    exact hlm (sorted_perm (lotsW_sorted hl) (lotsW_sorted hm) ((get hl hx).trans (get hm hy).symm))
  mem := fun x => by
    unfold lawRings lawFound
    rw [List.mem_mergeSort, List.mem_filterMap]
    constructor
    · rintro ⟨l, hl, hx⟩
      cases hwk : walked ss l with
      | none => rw [hwk] at hx; cases hx
      | some r =>
        rw [hwk] at hx
        cases hx
        exact ⟨r, walked_ring hne (lotsW_sorted hl) (lotsW_lt hl).1 hwk, rfl⟩
    · rintro ⟨r, hr, rfl⟩
      have hn1 : (r.map (·.1)).Nodup := by obtain ⟨a, _, _, h, _⟩ := hr; exact h
      obtain ⟨h1, h2⟩ := sort_lt hn1
      obtain ⟨r', h3, h4⟩ := ring_walked hne hr h1 h2
      refine ⟨_, lotsW_in h1 fun i hi => ring_lt hr i (h2.mem_iff.mp hi), ?_⟩
      rw [h3]
      show some (least ss r') = _
      rw [least_eq_of hne hr h4]
end K43
set_option Elab.async false
set_option linter.all false
set_option maxRecDepth 100000
set_option maxHeartbeats 4000000
/-! k43, part M4: a web fits just when it has no uneven ring. -/
namespace K43
open PySem PySem.Spec L2 Evl C8

theorem ne0 {q : Rat} (h : 0 < q) : q ≠ 0 := Rat.ne_of_gt h
theorem sq_one {w : Rat} (h0 : 0 < w) (h : w * w = 1) : w = 1 := by
  rcases Rat.le_total (a := w) (b := 1) with h1 | h1
  · apply Classical.byContradiction
    intro hne
    have h2 := Rat.lt_of_le_of_ne h1 hne
    have h3 := Rat.mul_lt_mul_of_pos_right h2 h0
    rw [h, Rat.one_mul] at h3
    exact Rat.lt_irrefl (Std.lt_of_lt_of_le h3 h1)
  · apply Classical.byContradiction
    intro hne
    have h2 := Rat.lt_of_le_of_ne h1 (fun z => hne z.symm)
    have h3 := Rat.mul_lt_mul_of_pos_right h2 h0
    rw [h, Rat.one_mul] at h3
    exact Rat.lt_irrefl (Std.lt_of_lt_of_le h3 h1)
theorem mul_swap (a b c d : Rat) : a * b * (c * d) = (a * c) * (b * d) := by
  rw [Rat.mul_assoc, Rat.mul_assoc, ← Rat.mul_assoc b, Rat.mul_comm b c, Rat.mul_assoc]
def prodR (f : Nat × Nat → Rat) : Way → Rat
  | [] => 1
  | x :: p => f x * prodR f p
theorem foldl_prod (f : Nat × Nat → Rat) : ∀ (p : Way) (c : Rat), p.foldl (fun q x => q * f x) c = c * prodR f p
  | [], c => by show c = c * 1; rw [Rat.mul_one]
  | x :: p, c => by
    show p.foldl (fun q x => q * f x) (c * f x) = c * (f x * prodR f p)
    rw [foldl_prod f p, Rat.mul_assoc]
def rootAt (ss : List Stl) (x : Nat × Nat) : Rat := match ss[x.1]? with
  | some s => s.r
  | none => 1
theorem hPro_eq (ss : List Stl) (r : Way) : hPro ss r = prodR (heldAt ss) r := by
  unfold hPro
  rw [foldl_prod, Rat.one_mul]
theorem tPro_eq (ss : List Stl) (r : Way) : tPro ss r = prodR (fun x => heldAt ss (x.1, otherAt ss x)) r := by
  unfold tPro
  rw [foldl_prod (fun x => heldAt ss (x.1, otherAt ss x)), Rat.one_mul]
theorem held_held {n : Nat} {s : Stl} (so : s.Ok n) {b : Nat} (ht : s.touch b) : s.held b * s.held (s.other b) = s.r * s.r := by
  rw [← so.eq]
  unfold Stl.held Stl.other
  have hne := so.ne
  by_cases h : s.u = b
  · rw [if_pos h, if_pos h, if_neg hne]
  · rw [if_neg h, if_neg h, if_pos rfl, Rat.mul_comm]
theorem fac_fac {n : Nat} {s : Stl} (so : s.Ok n) {b : Nat} (ht : s.touch b) : (s.held b / s.r) * (s.held (s.other b) / s.r) = 1 := by
  have h := held_held so ht
  have hr := ne0 so.r0
  rw [Rat.div_def, Rat.div_def]
  have : s.held b * s.r⁻¹ * (s.held (s.other b) * s.r⁻¹) = (s.held b * s.held (s.other b)) * (s.r⁻¹ * s.r⁻¹) := by
    rw [Rat.mul_assoc, Rat.mul_assoc, ← Rat.mul_assoc s.r⁻¹, Rat.mul_comm s.r⁻¹ (s.held (s.other b)), Rat.mul_assoc]
  rw [this, h, Rat.mul_assoc, ← Rat.mul_assoc s.r s.r⁻¹, Rat.mul_inv_cancel _ hr, Rat.one_mul, Rat.mul_inv_cancel _ hr]
section
variable {n : Nat} {ss : List Stl}
theorem wt_pos (hok : WOk n ss) {a b : Nat} {p : Way} (h : IsWalk ss a p b) : 0 < wt ss p := by
  induction h with
  | nil => exact (by decide : (0 : Rat) < 1)
  | @step b i p s hw hs ht ih =>
    have so := hok.ok s (List.mem_of_getElem? hs)
    rw [wt_snoc, fac_at hs, Rat.div_def]
    exact Rat.mul_pos ih (Rat.mul_pos (so.held0 b) (Rat.inv_pos.mpr so.r0))
/-- the way back weighs the inverse -/
theorem wt_back (hok : WOk n ss) {a b : Nat} {p : Way} (h : IsWalk ss a p b) : wt ss p * wt ss (back ss p) = 1 := by
  induction h with
  | nil => show (1 : Rat) * 1 = 1; rw [Rat.mul_one]
  | @step b i p s hw hs ht ih =>
    have so := hok.ok s (List.mem_of_getElem? hs)
    have e1 : back ss (p ++ [(i, b)]) = (i, s.other b) :: back ss p := by
      rw [back_app]
      unfold back
      simp [otherAt_at hs]
    rw [e1, wt_snoc]
    show wt ss p * fac ss (i, b) * (fac ss (i, s.other b) * wt ss (back ss p)) = 1
    rw [fac_at hs, fac_at hs, Rat.mul_assoc, ← Rat.mul_assoc (s.held b / s.r), fac_fac so ht, Rat.one_mul]
    exact ih
theorem uneven_iff (hok : WOk n ss) {a b : Nat} {p : Way} (h : IsWalk ss a p b) : uneven ss p = true ↔ wt ss p ≠ 1 := by
  -- held = weight times roots, held times beside = roots squared
  have key : hPro ss p = wt ss p * prodR (rootAt ss) p ∧ hPro ss p * tPro ss p = prodR (rootAt ss) p * prodR (rootAt ss) p ∧ 0 < prodR (rootAt ss) p := by
    rw [hPro_eq, tPro_eq]
    have st := h.steps
    clear h
    induction p with
    | nil =>
      refine ⟨?_, rfl, (by decide : (0 : Rat) < 1)⟩
      show (1 : Rat) = 1 * 1
      rw [Rat.mul_one]
    | cons x p ih =>
      obtain ⟨h1, h2, h3⟩ := ih fun y hy => st y (List.mem_cons_of_mem _ hy)
      obtain ⟨s, hs, ht⟩ := st x (List.mem_cons_self ..)
      have so := hok.ok s (List.mem_of_getElem? hs)
      have er : rootAt ss x = s.r := by unfold rootAt; rw [hs]
      have eh : heldAt ss x = s.held x.2 := by unfold heldAt; rw [hs]
      have eo : otherAt ss x = s.other x.2 := by unfold otherAt; rw [hs]
      have eh2 : heldAt ss (x.1, otherAt ss x) = s.held (s.other x.2) := by rw [eo]; exact heldAt_at hs
      have ef : fac ss x = s.held x.2 / s.r := by unfold fac; rw [hs]
      refine ⟨?_, ?_, ?_⟩
      · show heldAt ss x * prodR (heldAt ss) p = fac ss x * wt ss p * (rootAt ss x * prodR (rootAt ss) p)
        rw [h1, eh, ef, er]
        have : s.held x.2 / s.r * wt ss p * (s.r * prodR (rootAt ss) p) = (s.held x.2 / s.r * s.r) * (wt ss p * prodR (rootAt ss) p) := by
          rw [Rat.mul_assoc, Rat.mul_assoc, ← Rat.mul_assoc (wt ss p), Rat.mul_comm (wt ss p) s.r, Rat.mul_assoc]
        rw [this, Rat.div_mul_cancel (ne0 so.r0)]
      · show heldAt ss x * prodR (heldAt ss) p * (heldAt ss (x.1, otherAt ss x) * prodR (fun x => heldAt ss (x.1, otherAt ss x)) p) = rootAt ss x * prodR (rootAt ss) p * (rootAt ss x * prodR (rootAt ss) p)
        rw [eh, eh2, er]
        rw [mul_swap, held_held so ht, h2, mul_swap]
      · show 0 < rootAt ss x * prodR (rootAt ss) p
        rw [er]
        exact Rat.mul_pos so.r0 h3
  obtain ⟨h1, h2, h3⟩ := key
  have hR := ne0 h3
  have hw0 := wt_pos hok h
  unfold uneven
  rw [Bool.not_eq_true', decide_eq_false_iff_not]
  refine not_congr ?_
  have can : ∀ {x y : Rat}, x * prodR (rootAt ss) p = y * prodR (rootAt ss) p → x = y := fun {x y} hxy => by
    have := congrArg (fun z => z * (prodR (rootAt ss) p)⁻¹) hxy
    simp only [Rat.mul_assoc, Rat.mul_inv_cancel _ hR, Rat.mul_one] at this
    exact this
  constructor
  · intro he
    rw [← he, h1] at h2
    refine sq_one hw0 ?_
    have : wt ss p * wt ss p * (prodR (rootAt ss) p * prodR (rootAt ss) p) = prodR (rootAt ss) p * prodR (rootAt ss) p := by
      rw [← mul_swap]
      exact h2
    have h4 : wt ss p * wt ss p * prodR (rootAt ss) p * prodR (rootAt ss) p = 1 * prodR (rootAt ss) p * prodR (rootAt ss) p := by
      rw [Rat.mul_assoc, this, Rat.one_mul]
    exact can (can h4)
  · intro he
    rw [he, Rat.one_mul] at h1
    rw [h1] at h2
    rw [h1]
    have h4 : tPro ss p * prodR (rootAt ss) p = prodR (rootAt ss) p * prodR (rootAt ss) p := by rw [Rat.mul_comm]; exact h2
    exact (can h4).symm
/-- a part of a way -/
theorem IsWalk.cut {a b : Nat} {r : Way} (h : IsWalk ss a r b) {k : Nat} {x : Nat × Nat} (hx : r[k]? = some x) : IsWalk ss a (r.take k) x.2 ∧ IsWalk ss x.2 (r.drop k) b := by
  have e : r = r.take k ++ r.drop k := (List.take_append_drop k r).symm
  rw [e] at h
  obtain ⟨c, h1, h2⟩ := IsWalk.app.mp h
  have hk := (List.getElem?_eq_some_iff.mp hx).1
  have hd : r.drop k = x :: r.drop (k + 1) := by
    rw [List.drop_eq_getElem_cons hk]
    congr 1
    exact (List.getElem?_eq_some_iff.mp hx).2
  have hh := h2.head
  rw [hd] at hh
  have : c = x.2 := by
    simp at hh
    exact hh.symm
  subst this
  exact ⟨h1, h2⟩
/-- a closed way that does not weigh one holds a ring that does not -/
theorem ring_of (hok : WOk n ss) : ∀ (N a : Nat) (p : Way), p.length ≤ N → IsWalk ss a p a → wt ss p ≠ 1 → ∃ r, IsRing ss r ∧ wt ss r ≠ 1
  | 0, a, p, hl, h, hw => by
    have : p = [] := List.eq_nil_of_length_eq_zero (by omega)
    rw [this] at hw
    exact absurd rfl hw
  | N + 1, a, p, hl, h, hw => by
    by_cases hn : (p.map (·.2)).Nodup
    · have at_ : ∀ {k : Nat}, k < p.length → ∃ x, p[k]? = some x := fun {k} hk => ⟨p[k], by simp [hk]⟩
      have wix : ∀ {i j : Nat} {c e : Nat × Nat}, p[i]? = some c → p[j]? = some e → c.2 = e.2 → i = j := by
        intro i j c e hc he hce
        have g1 : (p.map (·.2))[i]? = some c.2 := by rw [List.getElem?_map, hc]; rfl
        have g2 : (p.map (·.2))[j]? = some c.2 := by rw [List.getElem?_map, he, hce]; rfl
        exact nd_ix hn g1 g2
      have hl1 : p.length ≠ 0 := fun z => hw (by rw [List.eq_nil_of_length_eq_zero z]; rfl)
      have head : ∀ {x : Nat × Nat}, p[0]? = some x → x.2 = a := fun {x} hx => by
        have hh := h.head
        rw [List.getElem?_append_left (by rw [List.length_map]; omega), List.getElem?_map, hx] at hh
        exact Option.some.inj hh
      have hl2 : 2 ≤ p.length := by
        apply Classical.byContradiction
        intro z
        obtain ⟨x, hx⟩ := at_ (k := 0) (by omega)
        obtain ⟨s, h1, h2, h3⟩ := h.last hx (by omega)
        have hx2 := head hx
        exact Stl.other_ne (hok.nes s (List.mem_of_getElem? h1)) h2 (h3.trans hx2.symm)
      refine ⟨p, ⟨a, h, hl2, ?_, hn⟩, hw⟩
      rw [List.nodup_iff_pairwise_ne, List.pairwise_iff_getElem]
      intro i j hi hj hij z
      rw [List.length_map] at hi hj
      obtain ⟨x, hx⟩ := at_ hi
      obtain ⟨y, hy⟩ := at_ hj
      have hxy : x.1 = y.1 := by
        have e1 := List.getElem?_eq_some_iff.mp hx
        have e2 := List.getElem?_eq_some_iff.mp hy
        rw [List.getElem_map, List.getElem_map, e1.2, e2.2] at z
        exact z
      have hxy2 : x.2 ≠ y.2 := fun z => by
        have := wix hx hy z
        omega
      obtain ⟨x', hx'⟩ := at_ (k := i + 1) (by omega)
      obtain ⟨s, a1, a2, a3⟩ := h.next hx hx'
      obtain ⟨s2, b1, b2, _⟩ := h.at j y hy
      rw [← hxy, a1] at b1
      cases b1
      have hns := hok.nes s (List.mem_of_getElem? a1)
      -- the two ends of the one stall
      have o1 : s.other x.2 = y.2 := by
        unfold Stl.other
        rcases a2 with a2 | a2 <;> rcases b2 with b2 | b2
        · exact absurd (a2.symm.trans b2) hxy2
        · rw [if_pos a2]; exact b2
        · rw [if_neg fun z => hns (z.trans a2.symm)]; exact b2
        · exact absurd (a2.symm.trans b2) hxy2
      have hj1 : i + 1 = j := wix hx' hy (a3.symm.trans o1)
      have o2 : s.other y.2 = x.2 := by rw [← o1]; exact (Stl.other_other hns a2).1
      by_cases hlast : j + 1 = p.length
      · obtain ⟨s3, c1, c2, c3⟩ := h.last hy hlast
        rw [← hxy, a1] at c1
        cases c1
        obtain ⟨x0, hx0⟩ := at_ (k := 0) (by omega)
        have hi0 : 0 = i := wix hx0 hx (by rw [head hx0, ← c3, o2])
        subst hi0
        have hp : p = [x, y] := by
          have hl2' : p.length = 2 := by omega
          rw [← hj1] at hy
          apply List.ext_getElem?
          intro k
          match k with
          | 0 => rw [hx]; rfl
          | 1 => rw [hy]; rfl
          | k + 2 =>
            rw [List.getElem?_eq_none (by omega)]
            rfl
        apply hw
        rw [hp]
        show fac ss x * (fac ss y * 1) = 1
        have so := hok.ok s (List.mem_of_getElem? a1)
        have f1 : fac ss x = s.held x.2 / s.r := by unfold fac; rw [a1]
        have f2 : fac ss y = s.held y.2 / s.r := by unfold fac; rw [← hxy, a1]
        rw [Rat.mul_one, f1, f2, ← o1]
        exact fac_fac so a2
      · obtain ⟨y', hy'⟩ := at_ (k := j + 1) (by omega)
        obtain ⟨s3, c1, c2, c3⟩ := h.next hy hy'
        rw [← hxy, a1] at c1
        cases c1
        have := wix hy' hx (c3.symm.trans o2)
        omega
    · -- a ware twice
      obtain ⟨i, j, x, y, hij, hx, hy, e⟩ : ∃ (i j : Nat) (x y : Nat × Nat), i < j ∧ p[i]? = some x ∧ p[j]? = some y ∧ x.2 = y.2 := by
        apply Classical.byContradiction
        intro hno
        apply hn
        rw [List.nodup_iff_pairwise_ne, List.pairwise_iff_getElem]
        intro i j hi hj hij z
        rw [List.length_map] at hi hj
        rw [List.getElem_map, List.getElem_map] at z
        exact hno ⟨i, j, p[i], p[j], hij, by simp [hi], by simp [hj], z⟩
      have hjl := (List.getElem?_eq_some_iff.mp hy).1
      obtain ⟨h1, h2⟩ := h.cut hy
      have hxt : (p.take j)[i]? = some x := by rw [List.getElem?_take, if_pos hij]; exact hx
      obtain ⟨h3, h4⟩ := h1.cut hxt
      rw [List.take_take, Nat.min_eq_left (by omega)] at h3
      rw [e] at h3 h4
      have hsplit : p = p.take i ++ ((p.take j).drop i ++ p.drop j) := by
        have e1 := (List.take_append_drop j p).symm
        have e2 := (List.take_append_drop i (p.take j)).symm
        rw [List.take_take, Nat.min_eq_left (by omega)] at e2
        rw [← List.append_assoc, ← e2]
        exact e1
      have hwp : wt ss p = wt ss ((p.take j).drop i) * wt ss (p.take i ++ p.drop j) := by
        conv => lhs; rw [hsplit]
        rw [wt_app, wt_app, wt_app, ← Rat.mul_assoc, Rat.mul_comm (wt ss (p.take i)), Rat.mul_assoc]
      by_cases hB : wt ss ((p.take j).drop i) = 1
      · rw [hB, Rat.one_mul] at hwp
        rw [hwp] at hw
        exact ring_of hok N a (p.take i ++ p.drop j) (by rw [List.length_append, List.length_take, List.length_drop]; omega) (IsWalk.app.mpr ⟨_, h3, h2⟩) hw
      · exact ring_of hok N _ ((p.take j).drop i) (by rw [List.length_drop, List.length_take]; omega) h4 hB
theorem wt_same (hok : WOk n ss) {r r' : Way} (hr : IsRing ss r) (h : Same2 ss r r') (hw : wt ss r ≠ 1) : wt ss r' ≠ 1 := by
  have rot : ∀ {q q' : Way}, Rot q q' → wt ss q' = wt ss q := fun {q q'} k => by
    obtain ⟨p, t, rfl, rfl⟩ := k
    rw [wt_app, wt_app, Rat.mul_comm]
  rcases h with h | h
  · rw [rot h]; exact hw
  · rw [rot h]
    intro z
    obtain ⟨a, hwk, _⟩ := hr
    have := wt_back hok hwk
    rw [z, Rat.mul_one] at this
    exact hw this
theorem fit_iff (hok : WOk n ss) {rt : Nat → Nat} {sc : Nat → Rat} (tr : Tree ss n rt sc) {L : List Way} (hL : RingsOf ss L) : (∃ r ∈ L, uneven ss r = true) ↔ ¬ Bal ss sc := by
  constructor
  · rintro ⟨r, hr, hu⟩ hB
    obtain ⟨r0, hr0, rfl⟩ := (hL.mem r).mp hr
    have hring := least_ring hok.nes hr0
    obtain ⟨a, hw, hl, n1, n2⟩ := hring
    have hne := (uneven_iff hok hw).mp hu
    -- along a way the scales go by the weight
    have along : ∀ {a b : Nat} {p : Way}, IsWalk ss a p b → sc a * wt ss p = sc b := by
      intro a b p h
      induction h with
      | nil => show sc _ * 1 = sc _; rw [Rat.mul_one]
      | @step b i p s hw hs ht ih =>
        have so := hok.ok s (List.mem_of_getElem? hs)
        have hb := hB s (List.mem_of_getElem? hs)
        rw [wt_snoc, ← Rat.mul_assoc, ih, fac_at hs]
        have hns := so.ne
        unfold Stl.held Stl.other
        rcases ht with ht | ht
        · rw [if_pos ht, if_pos ht, ← ht, ← hb, Rat.div_def, Rat.div_def, Rat.mul_assoc]
        · have h3 : ¬ s.u = b := fun z => hns (z.trans ht.symm)
          rw [if_neg h3, if_neg h3, ← ht, ← hb]
          have f := fac_fac so (b := s.u) (.inl rfl)
          unfold Stl.held Stl.other at f
          rw [if_pos rfl, if_pos rfl, if_neg hns] at f
          have : sc s.u * s.a / s.r * (s.b / s.r) = sc s.u * (s.a / s.r * (s.b / s.r)) := by
            rw [Rat.div_def, Rat.div_def, Rat.div_def, Rat.mul_assoc, Rat.mul_assoc, Rat.mul_assoc]
          rw [this, f, Rat.mul_one]
    have ha : a < n := by
      cases hrl : least ss r0 with
      | nil => rw [hrl] at hl; simp at hl
      | cons x q =>
        have hh := hw.head
        rw [hrl] at hh
        have : x.2 = a := by simpa using hh
        rw [← this]
        exact (hw.touch hok (x := x) (by rw [hrl]; simp)).2
    obtain ⟨_, p, hp, he⟩ := tr.tr a ha
    have hsc : sc a ≠ 0 := by rw [he]; exact ne0 (wt_pos hok hp)
    have := along hw
    apply hne
    have h2 := congrArg (fun z => (sc a)⁻¹ * z) this
    simp only [← Rat.mul_assoc, Rat.inv_mul_cancel _ hsc, Rat.one_mul] at h2
    exact h2
  · intro hB
    obtain ⟨s, hs, hb⟩ : ∃ s, s ∈ ss ∧ sc s.u * s.a / s.r ≠ sc s.v := by
      apply Classical.byContradiction
      intro hno
      exact hB fun s hs => Classical.byContradiction fun z => hno ⟨s, hs, z⟩
    have so := hok.ok s hs
    obtain ⟨i, hi⟩ := List.getElem?_of_mem hs
    obtain ⟨_, p, hp, he⟩ := tr.tr s.u so.hu
    obtain ⟨_, q, hq, hf⟩ := tr.tr s.v so.hv
    have hone : rt s.u = rt s.v := tr.one s.u s.v ⟨s, hs, .inl ⟨rfl, rfl⟩⟩
    have ho : s.other s.u = s.v := by unfold Stl.other; rw [if_pos rfl]
    have hh : s.held s.u = s.a := by unfold Stl.held; rw [if_pos rfl]
    have st := hp.step hi (.inl rfl)
    rw [ho] at st
    have bq := back_walk hok.nes hq
    rw [← hone] at bq
    have closed := IsWalk.app.mpr ⟨_, st, bq⟩
    obtain ⟨r, hr, hw⟩ := ring_of hok _ _ _ (Nat.le_refl _) closed (fun z => by
      rw [wt_app, wt_snoc, fac_at hi, hh, ← he] at z
      apply hb
      have h1 := wt_back hok hq
      rw [← hf] at h1
      have h2 := congrArg (fun y => y * sc s.v) z
      simp only [Rat.one_mul] at h2
      rw [Rat.mul_assoc, Rat.mul_comm (wt ss (back ss q)) (sc s.v), h1, Rat.mul_one, ← Rat.mul_one (sc s.u * (s.a / s.r)), Rat.mul_one, Rat.div_def, ← Rat.mul_assoc, ← Rat.div_def] at h2
      exact h2)
    have hs2 := least_same (ss := ss) hr.ne
    obtain ⟨a, hwk, _⟩ := least_ring hok.nes hr
    exact ⟨least ss r, (hL.mem _).mpr ⟨r, hr, rfl⟩, (uneven_iff hok hwk).mpr (wt_same hok hr hs2 hw)⟩
end
end K43
set_option Elab.async false
set_option linter.all false
set_option maxRecDepth 100000
set_option maxHeartbeats 4000000
/-! k43, part M5: the rings of a small web are not many. -/
namespace K43
open PySem PySem.Spec L2 Evl C8

def subs : List Nat → List (List Nat)
  | [] => [[]]
  | x :: xs => subs xs ++ (subs xs).map (x :: ·)
theorem subs_len : ∀ l : List Nat, (subs l).length = 2 ^ l.length
  | [] => rfl
  | x :: l => by
    rw [subs, List.length_append, List.length_map, subs_len l, List.length_cons, Nat.pow_succ]
    omega
theorem filter_subs (p : Nat → Bool) : ∀ l : List Nat, l.filter p ∈ subs l
  | [] => List.mem_singleton.mpr rfl
  | x :: l => by
    rw [subs, List.filter_cons]
    split
    · exact List.mem_append_right _ (List.mem_map.mpr ⟨_, filter_subs p l, rfl⟩)
    · exact List.mem_append_left _ (filter_subs p l)
theorem len_inj {α : Type} {L : List α} {f : α → List Nat} {base : List Nat} (hn : L.Nodup) (hf : ∀ a ∈ L, ∀ b ∈ L, f a = f b → a = b) (hb : ∀ a ∈ L, f a ∈ subs base) : L.length ≤ 2 ^ base.length := by
  have h1 : (L.map f).Nodup := by
    rw [List.nodup_iff_pairwise_ne, List.pairwise_map]
    exact (List.nodup_iff_pairwise_ne.mp hn).imp_of_mem fun {a b} ha hb hab z => hab (hf a ha b hb z)
  have h2 := nodup_len h1 (m := subs base) fun x hx => by
    obtain ⟨a, ha, rfl⟩ := List.mem_map.mp hx
    exact hb a ha
  rwa [List.length_map, subs_len] at h2
/-- the parity of the steps at a ware tells whether the one pivot is among them -/
theorem pivot {ss : List Stl} {l m : List Nat} {p w : Nat} (hl : l.Nodup) (hm : m.Nodup) (tp : touchB ss w p = true) (he : ∀ i, i ≠ p → touchB ss w i = true → (i ∈ l ↔ i ∈ m)) (h1 : deg ss l w % 2 = 0) (h2 : deg ss m w % 2 = 0) : p ∈ l ↔ p ∈ m := by
  have split : ∀ {k : List Nat}, k.Nodup → deg ss k w = ((k.filter (touchB ss w)).filter fun i => !decide (i = p)).length + (if p ∈ k then 1 else 0) := by
    intro k hk
    have hn := List.filter_sublist (p := touchB ss w) |>.nodup hk
    unfold deg
    have hpm : p ∈ k.filter (touchB ss w) ↔ p ∈ k := ⟨fun h => (List.mem_filter.mp h).1, fun h => List.mem_filter.mpr ⟨h, tp⟩⟩
    generalize k.filter (touchB ss w) = q at hn hpm
    have key : ∀ q : List Nat, q.Nodup → q.length = (q.filter fun i => !decide (i = p)).length + (if p ∈ q then 1 else 0) := by
      intro q
      induction q with
      | nil => intro _; rfl
      | cons x q ih =>
        intro hq
        obtain ⟨g1, g2⟩ := List.nodup_cons.mp hq
        have := ih g2
        rw [List.filter_cons, List.length_cons]
        by_cases hx : x = p
        · subst hx
          rw [if_neg g1] at this
          simp
          omega
        · have hx' : ¬ p = x := fun z => hx z.symm
          simp only [hx, decide_false, Bool.not_false, if_true, List.length_cons, List.mem_cons, hx', false_or]
          omega
    rw [key q hn]
    simp only [hpm]
  have hsame : ((l.filter (touchB ss w)).filter fun i => !decide (i = p)).length = ((m.filter (touchB ss w)).filter fun i => !decide (i = p)).length := by
    have hnl := (List.filter_sublist (p := fun i => !decide (i = p))).nodup ((List.filter_sublist (p := touchB ss w)).nodup hl)
    have hnm := (List.filter_sublist (p := fun i => !decide (i = p))).nodup ((List.filter_sublist (p := touchB ss w)).nodup hm)
    refine ((List.perm_ext_iff_of_nodup hnl hnm).mpr fun i => ?_).length_eq
    simp only [List.mem_filter, Bool.not_eq_true', decide_eq_false_iff_not]
    constructor
    · rintro ⟨⟨g1, g2⟩, g3⟩
      exact ⟨⟨(he i g3 g2).mp g1, g2⟩, g3⟩
    · rintro ⟨⟨g1, g2⟩, g3⟩
      exact ⟨⟨(he i g3 g2).mpr g1, g2⟩, g3⟩
  rw [split hl] at h1
  rw [split hm, ← hsame] at h2
  by_cases a : p ∈ l <;> by_cases b : p ∈ m
  · simp [a, b]
  · rw [if_pos a] at h1; rw [if_neg b] at h2; omega
  · rw [if_neg a] at h1; rw [if_pos b] at h2; omega
  · simp [a, b]
theorem ring_even {ss : List Stl} (hne : Ne ss) {r : Way} (hr : IsRing ss r) (w : Nat) : deg ss (r.map (·.1)) w % 2 = 0 := by
  by_cases h : ∃ i ∈ r.map (·.1), touchB ss w i = true
  · obtain ⟨i, hi, ht⟩ := h
    rw [← count_ends hne (ring_lt hr), ring_ends hne hr w (ends_mem hi ht)]
  · have : (r.map (·.1)).filter (touchB ss w) = [] := by
      rw [List.filter_eq_nil_iff]
      exact fun i hi z => h ⟨i, hi, z⟩
    unfold deg
    rw [this]
    rfl
/-- two of the list with the same stalls are one -/
theorem L_inj {ss : List Stl} (hne : Ne ss) {L : List Way} (hL : RingsOf ss L) {x y : Way} (hx : x ∈ L) (hy : y ∈ L) (h : ∀ i, i ∈ x.map (·.1) ↔ i ∈ y.map (·.1)) : x = y := by
  have get : ∀ {z : Way}, z ∈ L → IsRing ss z ∧ least ss z = z := fun {z} hz => by
    obtain ⟨r, hr, rfl⟩ := (hL.mem z).mp hz
    exact ⟨least_ring hne hr, least_eq_of hne hr (least_same hr.ne)⟩
  obtain ⟨rx, lx⟩ := get hx
  obtain ⟨ry, ly⟩ := get hy
  have nx : (x.map (·.1)).Nodup := by obtain ⟨a, _, _, h, _⟩ := rx; exact h
  have ny : (y.map (·.1)).Nodup := by obtain ⟨a, _, _, h, _⟩ := ry; exact h
  obtain ⟨h1, h2⟩ := sort_lt nx
  have h3 := h2.trans ((List.perm_ext_iff_of_nodup nx ny).mpr h)
  obtain ⟨r1, a1, a2⟩ := ring_walked hne rx h1 h2
  obtain ⟨r2, b1, b2⟩ := ring_walked hne ry h1 h3
  rw [a1] at b1
  cases b1
  rw [← lx, ← ly, ← least_eq_of hne rx a2, ← least_eq_of hne ry b2]
structure MainOk (n : Nat) (ss : List Stl) : Prop where
  ok : WOk n ss
  l9 : ss.length ≤ 9
  few : ss.length ≤ 8 ∨ ∃ s1 ∈ ss, ∃ s2 ∈ ss, ∃ w1 w2, s1.touch w1 ∧ s2.touch w2 ∧ ¬ s2.touch w1
theorem base_mem {m : Nat} {f : Nat → Bool} {l : List Nat} (h : (List.range m).filter f = l) : True := trivial
theorem main_few {n : Nat} {ss : List Stl} (h : MainOk n ss) {L : List Way} (hL : RingsOf ss L) : L.length ≤ 200 := by
  have hne := h.ok.nes
  have ringOf : ∀ {z : Way}, z ∈ L → IsRing ss z := fun {z} hz => by
    obtain ⟨r, hr, rfl⟩ := (hL.mem z).mp hz
    exact least_ring hne hr
  have nd1 : ∀ {z : Way}, z ∈ L → (z.map (·.1)).Nodup := fun {z} hz => by
    obtain ⟨a, _, _, h, _⟩ := ringOf hz
    exact h
  -- the code: which stalls but the pivots are there
  have code : ∀ (b : List Nat) {x y : Way} {i : Nat}, b.filter (fun i => decide (i ∈ x.map (·.1))) = b.filter (fun i => decide (i ∈ y.map (·.1))) → i ∈ b → (i ∈ x.map (·.1) ↔ i ∈ y.map (·.1)) := by
    intro b x y i he hi
    constructor
    · intro hx
      have : i ∈ b.filter (fun i => decide (i ∈ x.map (·.1))) := List.mem_filter.mpr ⟨hi, decide_eq_true hx⟩
      rw [he] at this
      exact of_decide_eq_true (List.mem_filter.mp this).2
    · intro hy
      have : i ∈ b.filter (fun i => decide (i ∈ y.map (·.1))) := List.mem_filter.mpr ⟨hi, decide_eq_true hy⟩
      rw [← he] at this
      exact of_decide_eq_true (List.mem_filter.mp this).2
  have lens : ∀ (ps : List Nat), (∀ p ∈ ps, p < ss.length) → ps.Nodup → ((List.range ss.length).filter fun i => !decide (i ∈ ps)).length + ps.length ≤ ss.length := by
    intro ps hlt hnd
    have hn : (((List.range ss.length).filter fun i => !decide (i ∈ ps)) ++ ps).Nodup := by
      rw [List.nodup_append]
      refine ⟨(List.filter_sublist).nodup List.nodup_range, hnd, fun a ha b hb z => ?_⟩
      subst z
      have := (List.mem_filter.mp ha).2
      simp [hb] at this
    have := nodup_len hn (m := List.range ss.length) fun a ha => by
      rcases List.mem_append.mp ha with q | q
      · exact (List.mem_filter.mp q).1
      · exact List.mem_range.mpr (hlt a q)
    rwa [List.length_append, List.length_range] at this
  have inBase : ∀ (ps : List Nat) {i : Nat}, i < ss.length → i ∉ ps → i ∈ (List.range ss.length).filter fun i => !decide (i ∈ ps) := fun ps {i} h1 h2 => List.mem_filter.mpr ⟨List.mem_range.mpr h1, by simp [h2]⟩
  have tlt : ∀ {w i : Nat}, touchB ss w i = true → i < ss.length := fun {w i} ht => by
    obtain ⟨s, hs, _⟩ := touchB_iff.mp ht
    exact (List.getElem?_eq_some_iff.mp hs).1
  have rlt : ∀ {z : Way} {i : Nat}, z ∈ L → i ∈ z.map (·.1) → i < ss.length := fun {z i} hz hi => ring_lt (ringOf hz) i hi
  rcases h.few with h8 | ⟨s1, hs1, s2, hs2, w1, w2, t1, t2, t3⟩
  · by_cases h0 : ss.length = 0
    · have : L = [] := by
        cases hLL : L with
        | nil => rfl
        | cons x L' =>
          exfalso
          have hx : x ∈ L := by rw [hLL]; simp
          obtain ⟨a, _, hl, _⟩ := ringOf hx
          cases hxx : x with
          | nil => rw [hxx] at hl; simp at hl
          | cons y r =>
            have := rlt (i := y.1) hx (by rw [hxx]; simp)
            omega
      rw [this]
      simp
    · obtain ⟨s, hs⟩ : ∃ s, ss[0]? = some s := ⟨ss[0]'(by omega), by simp [show 0 < ss.length by omega]⟩
      have tp : touchB ss s.u 0 = true := touchB_iff.mpr ⟨s, hs, .inl rfl⟩
      have hb := len_inj (L := L) (f := fun x => ((List.range ss.length).filter fun i => !decide (i ∈ [0])).filter fun i => decide (i ∈ x.map (·.1))) hL.nd (fun x hx y hy he => L_inj hne hL hx hy fun i => ?_) (fun x hx => filter_subs _ _)
      · have hl := lens [0] (by intro p hp; rw [List.mem_singleton.mp hp]; omega) (by simp)
        simp only [List.length_singleton] at hl
        have : 2 ^ ((List.range ss.length).filter fun i => !decide (i ∈ [0])).length ≤ 2 ^ 7 := Nat.pow_le_pow_right (by decide) (by omega)
        have e7 : (2 : Nat) ^ 7 = 128 := rfl
        omega
      · have rest : ∀ j, j ≠ 0 → j < ss.length → (j ∈ x.map (·.1) ↔ j ∈ y.map (·.1)) := fun j h1 h2 => code _ he (inBase [0] h2 (by simpa using h1))
        by_cases hi : i = 0
        · subst hi
          exact pivot (nd1 hx) (nd1 hy) tp (fun j h1 h2 => rest j h1 (tlt h2)) (ring_even hne (ringOf hx) _) (ring_even hne (ringOf hy) _)
        · by_cases hil : i < ss.length
          · exact rest i hi hil
          · exact ⟨fun z => absurd (rlt hx z) hil, fun z => absurd (rlt hy z) hil⟩
  · obtain ⟨p1, hp1⟩ := List.getElem?_of_mem hs1
    obtain ⟨p2, hp2⟩ := List.getElem?_of_mem hs2
    have hpl1 := (List.getElem?_eq_some_iff.mp hp1).1
    have hpl2 := (List.getElem?_eq_some_iff.mp hp2).1
    have hne12 : p1 ≠ p2 := fun z => by
      subst z
      rw [hp1] at hp2
      cases hp2
      exact t3 t1
    have tp1 := touch_here hp1 t1
    have tp2 := touch_here hp2 t2
    have tp3 : touchB ss w1 p2 = true → False := fun z => by
      obtain ⟨s, g1, g2⟩ := touchB_iff.mp z
      rw [hp2] at g1
      cases g1
      exact t3 g2
    have hb := len_inj (L := L) (f := fun x => ((List.range ss.length).filter fun i => !decide (i ∈ [p1, p2])).filter fun i => decide (i ∈ x.map (·.1))) hL.nd (fun x hx y hy he => L_inj hne hL hx hy fun i => ?_) (fun x hx => filter_subs _ _)
    · have hl := lens [p1, p2] (by
        intro p hp
        simp only [List.mem_cons, List.not_mem_nil, or_false] at hp
        rcases hp with rfl | rfl <;> assumption) (by simp [hne12])
      simp only [List.length_cons, List.length_nil] at hl
      have h9 := h.l9
      have : 2 ^ ((List.range ss.length).filter fun i => !decide (i ∈ [p1, p2])).length ≤ 2 ^ 7 := Nat.pow_le_pow_right (by decide) (by omega)
      have e7 : (2 : Nat) ^ 7 = 128 := rfl
      omega
    · have rest : ∀ j, j ≠ p1 → j ≠ p2 → j < ss.length → (j ∈ x.map (·.1) ↔ j ∈ y.map (·.1)) := fun j h1 h2 h3 => code _ he (inBase [p1, p2] h3 (by simp [h1, h2]))
      have one : p1 ∈ x.map (·.1) ↔ p1 ∈ y.map (·.1) := pivot (w := w1) (nd1 hx) (nd1 hy) tp1 (fun j h1 h2 => rest j h1 (fun z => tp3 (z ▸ h2)) (tlt h2)) (ring_even hne (ringOf hx) _) (ring_even hne (ringOf hy) _)
      have two : p2 ∈ x.map (·.1) ↔ p2 ∈ y.map (·.1) := pivot (w := w2) (nd1 hx) (nd1 hy) tp2 (fun j h1 h2 => by
        by_cases hj : j = p1
        · rw [hj]; exact one
        · exact rest j hj h1 (tlt h2)) (ring_even hne (ringOf hx) _) (ring_even hne (ringOf hy) _)
      by_cases hi1 : i = p1
      · rw [hi1]; exact one
      · by_cases hi2 : i = p2
        · rw [hi2]; exact two
        · by_cases hil : i < ss.length
          · exact rest i hi1 hi2 hil
          · exact ⟨fun z => absurd (rlt hx z) hil, fun z => absurd (rlt hy z) hil⟩
end K43
set_option Elab.async false
set_option linter.all false
set_option maxRecDepth 100000
set_option maxHeartbeats 4000000
/-! k43, part M6: the shown text is short; the rings over four wares, counted. -/
namespace K43
open PySem PySem.Spec L2 Evl C8

theorem weight_small {i : Nat} (h : i < 100) : PyData.weight (.int (i : Int)) ≤ 7 := by
  unfold PyData.weight
  split
  · omega
  · have : ((i : Int).natAbs).log2 < 7 := by
      show i.log2 < 7
      by_cases h0 : i = 0
      · subst h0; decide
      · exact (Nat.log2_lt h0).mpr (by omega)
    omega
theorem weight_pairs : ∀ r : Way, (∀ p ∈ r, p.1 < 100 ∧ p.2 < 100) → PyData.weightAll (r.map pairD) ≤ 17 * r.length
  | [], _ => by simp [PyData.weightAll]
  | p :: r, h => by
    have h1 := weight_pairs r fun q hq => h q (List.mem_cons_of_mem _ hq)
    obtain ⟨a, b⟩ := h p (List.mem_cons_self ..)
    have w1 := weight_small a
    have w2 := weight_small b
    have e : PyData.weight (pairD p) = PyData.weight (.int (p.1 : Int)) + 1 + (PyData.weight (.int (p.2 : Int)) + 1 + 0) := by
      simp only [pairD, PyData.weight, PyData.weightAll]
    rw [List.map_cons, PyData.weightAll, List.length_cons]
    omega
theorem weight_ways : ∀ L : List Way, (∀ r ∈ L, r.length ≤ 8 ∧ ∀ p ∈ r, p.1 < 100 ∧ p.2 < 100) → PyData.weightAll (L.map wayD) ≤ 137 * L.length
  | [], _ => by simp [PyData.weightAll]
  | r :: L, h => by
    have h1 := weight_ways L fun q hq => h q (List.mem_cons_of_mem _ hq)
    obtain ⟨a, b⟩ := h r (List.mem_cons_self ..)
    have w1 := weight_pairs r b
    have e : PyData.weight (wayD r) = PyData.weightAll (r.map pairD) := by simp only [wayD, PyData.weight]
    rw [List.map_cons, PyData.weightAll, List.length_cons]
    omega
theorem short_pairs : ∀ r : Way, (∀ p ∈ r, p.1 < 100 ∧ p.2 < 100) → PyData.intsShortAll 13 (r.map pairD) = true
  | [], _ => by simp [PyData.intsShortAll]
  | p :: r, h => by
    obtain ⟨a, b⟩ := h p (List.mem_cons_self ..)
    have h1 := PyData.shown_int_le (i := (p.1 : Int)) (by show p.1 < _; omega)
    have h2 := PyData.shown_int_le (i := (p.2 : Int)) (by show p.2 < _; omega)
    rw [List.map_cons, PyData.intsShortAll, short_pairs r fun q hq => h q (List.mem_cons_of_mem _ hq)]
    simp only [pairD, PyData.intsShort, PyData.intsShortAll, h1, h2, decide_true, Bool.and_self]
theorem short_ways : ∀ L : List Way, (∀ r ∈ L, r.length ≤ 8 ∧ ∀ p ∈ r, p.1 < 100 ∧ p.2 < 100) → PyData.intsShortAll 13 (L.map wayD) = true
  | [], _ => by simp [PyData.intsShortAll]
  | r :: L, h => by
    rw [List.map_cons, PyData.intsShortAll, short_ways L fun q hq => h q (List.mem_cons_of_mem _ hq)]
    simp [wayD, PyData.intsShort, short_pairs r (h r (List.mem_cons_self ..)).2]
theorem shown_short {L : List Way} (hl : L.length ≤ 200) (h : ∀ r ∈ L, r.length ≤ 8 ∧ ∀ p ∈ r, p.1 < 100 ∧ p.2 < 100) : (PyData.shown (.list (L.map wayD))).length ≤ sizeLine := by
  refine PyData.shown_fits_of_layable0 (B := 13) (by decide) (by decide) ?_ ?_
  · unfold PyData.layable0
    have d := depthAll_ways L
    have w := weight_ways L h
    rw [Bool.and_eq_true, Bool.and_eq_true, decide_eq_true_iff, decide_eq_true_iff]
    refine ⟨⟨?_, ?_⟩, ?_⟩
    · rw [PyData.canLay0]; exact canLay_ways L
    · rw [PyData.depth]; omega
    · rw [PyData.weight]
      have : (2 : Nat) ^ 20 = 1048576 := rfl
      omega
  · rw [PyData.intsShort]; exact short_ways L h
/-! ### the rings of four wares with these six counts -/
def U6 (k : Nat) : Nat := [0, 0, 0, 1, 1, 2].getD k 0
def V6 (k : Nat) : Nat := [1, 2, 3, 2, 3, 3].getD k 0
def isTy (k : Nat) (s : Stl) : Bool := decide (s.u = U6 k) && decide (s.v = V6 k)
structure Bes (ss : List Stl) (c : List Nat) : Prop where
  l6 : c.length = 6
  ok : WOk 4 ss
  ev : ∀ s ∈ ss, s.a = s.b
  ty : ∀ s ∈ ss, ∃ k, k < 6 ∧ isTy k s = true
  cnt : ∀ k, k < 6 → ss.countP (isTy k) = c.getD k 0
def lots7 : List (List Nat) := [[0, 1, 3], [0, 2, 4], [1, 2, 5], [3, 4, 5], [0, 3, 5, 2], [0, 4, 5, 1], [1, 3, 4, 2]]
def lots7s : List (List Nat) := [[0, 1, 3], [0, 2, 4], [1, 2, 5], [3, 4, 5], [0, 2, 3, 5], [0, 1, 4, 5], [1, 2, 3, 4]]
def pairsN (c : List Nat) : Nat := (c.map fun n => n * (n - 1) / 2).sum
def prodN (c lot : List Nat) : Nat := lot.foldl (fun w k => w * c.getD k 0) 1
def manyOf (c : List Nat) : Nat := lots7.foldl (fun m lot => m + prodN c lot) (pairsN c)
/-- the kind of a pair of wares -/
def tyP (a b : Nat) : Nat := if min a b = 0 then max a b - 1 else if min a b = 1 then max a b + 1 else 5
def tyAt (ss : List Stl) (i : Nat) : Nat := tyP (uAt ss i) (vAt ss i)
theorem tyP_symm (a b : Nat) : tyP a b = tyP b a := by unfold tyP; rw [Nat.min_comm, Nat.max_comm]
theorem tyP_UV : ∀ k, k < 6 → tyP (U6 k) (V6 k) = k := by decide
theorem isTy_iff {s : Stl} {k j : Nat} (hk : k < 6) (h : isTy k s = true) (hj : j < 6) : isTy j s = true ↔ tyP s.u s.v = j := by
  unfold isTy at h ⊢
  rw [Bool.and_eq_true, decide_eq_true_iff, decide_eq_true_iff] at h
  rw [Bool.and_eq_true, decide_eq_true_iff, decide_eq_true_iff, h.1, h.2, tyP_UV k hk]
  constructor
  · rintro ⟨h1, h2⟩
    have := tyP_UV j hj
    rw [← h1, ← h2, tyP_UV k hk] at this
    exact this
  · rintro rfl
    exact ⟨rfl, rfl⟩
def TK (ss : List Stl) (k : Nat) : List Nat := (List.range ss.length).filter fun i => decide (tyAt ss i = k)
theorem TK_mem {ss : List Stl} {k i : Nat} : i ∈ TK ss k ↔ i < ss.length ∧ tyAt ss i = k := by
  unfold TK
  rw [List.mem_filter, List.mem_range, decide_eq_true_iff]
theorem TK_sorted (ss : List Stl) (k : Nat) : (TK ss k).Pairwise (· < ·) := List.Pairwise.sublist List.filter_sublist List.pairwise_lt_range
theorem TK_len {ss : List Stl} {c : List Nat} (h : Bes ss c) {k : Nat} (hk : k < 6) : (TK ss k).length = c.getD k 0 := by
  rw [← h.cnt k hk]
  unfold TK
  have key : ∀ (n : Nat) (l : List Stl), l.length = n → (∀ s ∈ l, s ∈ ss) → ((List.range l.length).filter fun i => decide (tyAt l i = k)).length = l.countP (isTy k) := by
    intro n
    induction n with
    | zero =>
      intro l h0 _
      rw [List.eq_nil_of_length_eq_zero h0]
      rfl
    | succ n ih =>
      intro l0 hn hl
      rcases List.eq_nil_or_concat l0 with rfl | ⟨l, s, rfl⟩
      · simp at hn
      rw [List.concat_eq_append] at hn hl ⊢
      have ih' := ih l (by rw [List.length_append, List.length_singleton] at hn; omega) fun x hx => hl x (List.mem_append_left _ hx)
      obtain ⟨j, hj, ht⟩ := h.ty s (hl s (by simp))
      rw [List.length_append, List.length_singleton, List.range_succ, List.filter_append, List.length_append, List.countP_append, ← ih']
      congr 1
      · congr 1
        refine List.filter_congr fun i hi => ?_
        have hil := List.mem_range.mp hi
        unfold tyAt uAt vAt
        rw [List.getElem?_append_left hil]
      · have e : tyAt (l ++ [s]) l.length = tyP s.u s.v := by
          unfold tyAt uAt vAt
          rw [List.getElem?_append_right (Nat.le_refl _), Nat.sub_self]
          rfl
        rw [List.filter_cons, List.filter_nil, e, List.countP_cons, List.countP_nil]
        have := isTy_iff hj ht hk
        by_cases hh : tyP s.u s.v = k
        · rw [if_pos (decide_eq_true hh), if_pos (this.mpr hh)]
          rfl
        · rw [if_neg (by simp [hh]), if_neg (fun z => hh (this.mp z))]
          rfl
  exact key _ ss rfl fun _ hs => hs
/-! ### pairs and choices -/
def pairs : List Nat → List (List Nat)
  | [] => []
  | x :: xs => (xs.map fun y => [x, y]) ++ pairs xs
theorem pairs_len2 : ∀ l : List Nat, 2 * (pairs l).length = l.length * (l.length - 1)
  | [] => rfl
  | [x] => rfl
  | x :: y :: l => by
    have := pairs_len2 (y :: l)
    rw [pairs, List.length_append, List.length_map, Nat.mul_add, this]
    simp only [List.length_cons, Nat.add_sub_cancel]
    have h1 : (l.length + 1 + 1) * (l.length + 1) = (l.length + 1) * (l.length + 1) + (l.length + 1) := Nat.succ_mul _ _
    have h2 : (l.length + 1) * (l.length + 1) = (l.length + 1) * l.length + (l.length + 1) := Nat.mul_succ _ _
    omega
theorem pairs_len (l : List Nat) : (pairs l).length = l.length * (l.length - 1) / 2 := by
  have := pairs_len2 l
  omega
theorem pairs_mem : ∀ {l : List Nat} {e : List Nat}, e ∈ pairs l → ∃ x y, e = [x, y] ∧ [x, y].Sublist l
  | x :: xs, e, h => by
    rcases List.mem_append.mp h with q | q
    · obtain ⟨y, hy, rfl⟩ := List.mem_map.mp q
      exact ⟨x, y, rfl, (List.singleton_sublist.mpr hy).cons_cons x⟩
    · obtain ⟨a, b, h1, h2⟩ := pairs_mem q
      exact ⟨a, b, h1, h2.cons x⟩
theorem pairs_in : ∀ {l : List Nat} {x y : Nat}, x ∈ l → y ∈ l → x ≠ y → [x, y] ∈ pairs l ∨ [y, x] ∈ pairs l
  | z :: l, x, y, hx0, hy0, hne => by
    rcases List.mem_cons.mp hx0 with rfl | hx
    · left
      exact List.mem_append_left _ (List.mem_map.mpr ⟨y, (List.mem_cons.mp hy0).resolve_left fun q => hne q.symm, rfl⟩)
    · rcases List.mem_cons.mp hy0 with rfl | hy
      · right
        exact List.mem_append_left _ (List.mem_map.mpr ⟨x, hx, rfl⟩)
      · rcases pairs_in hx hy hne with h | h
        · exact .inl (List.mem_append_right _ h)
        · exact .inr (List.mem_append_right _ h)
theorem pairs_nodup : ∀ {l : List Nat}, l.Nodup → (pairs l).Nodup
  | [], _ => List.nodup_nil
  | x :: l, h => by
    obtain ⟨h1, h2⟩ := List.nodup_cons.mp h
    rw [pairs, List.nodup_append]
    refine ⟨h2.map (f := fun y => [x, y]) fun a b hab z => hab (by simpa using z), pairs_nodup h2, fun a ha b hb z => ?_⟩
    subst z
    obtain ⟨y, _, rfl⟩ := List.mem_map.mp ha
    obtain ⟨p, q, h3, h4⟩ := pairs_mem hb
    cases h3
    exact h1 (h4.subset (by simp))
def choices (ss : List Stl) : List Nat → List (List Nat)
  | [] => [[]]
  | k :: ks => (TK ss k).flatMap fun i => (choices ss ks).map (i :: ·)
theorem choices_len (ss : List Stl) : ∀ ks : List Nat, (choices ss ks).length = (ks.map fun k => (TK ss k).length).foldr (· * ·) 1
  | [] => rfl
  | k :: ks => by
    rw [choices, List.length_flatMap]
    have : ∀ l : List Nat, (l.map fun i => ((choices ss ks).map (i :: ·)).length).sum = l.length * (choices ss ks).length := by
      intro l
      induction l with
      | nil => simp
      | cons x l ih =>
        rw [List.map_cons, List.sum_cons, ih, List.length_map, List.length_cons, Nat.succ_mul, Nat.add_comm]
    rw [this, choices_len ss ks]
    rfl
theorem choices_mem {ss : List Stl} : ∀ {ks e : List Nat}, e ∈ choices ss ks ↔ e.map (tyAt ss) = ks ∧ ∀ i ∈ e, i < ss.length
  | [], e => by
    rw [choices, List.mem_singleton]
    constructor
    · rintro rfl; simp
    · rintro ⟨h, _⟩; exact List.map_eq_nil_iff.mp h
  | k :: ks, e => by
    rw [choices, List.mem_flatMap]
    constructor
    · rintro ⟨i, hi, he⟩
      obtain ⟨e', he', rfl⟩ := List.mem_map.mp he
      obtain ⟨h1, h2⟩ := choices_mem.mp he'
      obtain ⟨g1, g2⟩ := TK_mem.mp hi
      refine ⟨by rw [List.map_cons, h1, g2], fun j hj => ?_⟩
      rcases List.mem_cons.mp hj with rfl | hj
      · exact g1
      · exact h2 j hj
    · rintro ⟨h1, h2⟩
      cases e with
      | nil => cases h1
      | cons i e' =>
        rw [List.map_cons] at h1
        injection h1 with h3 h4
        exact ⟨i, TK_mem.mpr ⟨h2 i (List.mem_cons_self ..), h3⟩, List.mem_map.mpr ⟨e', choices_mem.mpr ⟨h4, fun j hj => h2 j (List.mem_cons_of_mem _ hj)⟩, rfl⟩⟩
theorem choices_nodup (ss : List Stl) : ∀ ks : List Nat, (choices ss ks).Nodup
  | [] => by simp [choices]
  | k :: ks => by
    rw [choices, List.nodup_iff_pairwise_ne, List.pairwise_flatMap]
    refine ⟨fun i _ => List.nodup_iff_pairwise_ne.mp ((choices_nodup ss ks).map (f := fun e => i :: e) fun a b hab z => hab (by simpa using z)), ?_⟩
    refine (List.nodup_iff_pairwise_ne.mp (sorted_nodup (TK_sorted ss k))).imp fun {a b} hab x hx y hy z => ?_
    subst z
    obtain ⟨p, _, rfl⟩ := List.mem_map.mp hx
    obtain ⟨q, _, h⟩ := List.mem_map.mp hy
    injection h with h1 h2
    exact hab h1.symm
/-- a list whose kinds are these, in another order -/
theorem choices_perm {ss : List Stl} : ∀ {ks q : List Nat}, (q.map (tyAt ss)).Perm ks → (∀ i ∈ q, i < ss.length) → ∃ e ∈ choices ss ks, e.Perm q
  | [], q, h, _ => ⟨[], List.mem_singleton.mpr rfl, by rw [List.map_eq_nil_iff.mp h.eq_nil]⟩
  | k :: ks, q, h, hl => by
    have hk : k ∈ q.map (tyAt ss) := h.symm.subset (List.mem_cons_self ..)
    obtain ⟨i, hi, hik⟩ := List.mem_map.mp hk
    have hp := List.perm_cons_erase hi
    have h2 : ((q.erase i).map (tyAt ss)).Perm ks := by
      have := (hp.map (tyAt ss)).symm.trans h
      rw [List.map_cons, hik] at this
      exact this.cons_inv
    obtain ⟨e, he, hep⟩ := choices_perm h2 fun j hj => hl j (List.mem_of_mem_erase hj)
    refine ⟨i :: e, ?_, (hep.cons i).trans hp.symm⟩
    obtain ⟨g1, g2⟩ := choices_mem.mp he
    refine choices_mem.mpr ⟨by rw [List.map_cons, g1, hik], fun j hj => ?_⟩
    rcases List.mem_cons.mp hj with rfl | hj
    · exact hl j hi
    · exact g2 j hj
end K43
set_option Elab.async false
set_option linter.all false
set_option maxRecDepth 100000
set_option maxHeartbeats 4000000
/-! k43, part M7: the rings over four wares are as many as told. -/
namespace K43
open PySem PySem.Spec L2 Evl C8

def join (ss : List Stl) (i a b : Nat) : Prop := ∃ s, ss[i]? = some s ∧ s.touch a ∧ s.other a = b
theorem walk_step {ss : List Stl} {a b c i : Nat} {p : Way} (h : IsWalk ss a p b) (j : join ss i b c) : IsWalk ss a (p ++ [(i, b)]) c := by
  obtain ⟨s, h1, h2, rfl⟩ := j
  exact h.step h1 h2
theorem join_ty {ss : List Stl} (hne : Ne ss) {i a b : Nat} (h : join ss i a b) : tyAt ss i = tyP a b ∧ i < ss.length ∧ a ≠ b := by
  obtain ⟨s, h1, h2, rfl⟩ := h
  have hn := hne s (List.mem_of_getElem? h1)
  refine ⟨?_, (List.getElem?_eq_some_iff.mp h1).1, (Stl.other_ne hn h2).symm⟩
  unfold tyAt uAt vAt
  rw [h1]
  show tyP s.u s.v = _
  unfold Stl.other
  rcases h2 with h2 | h2
  · rw [if_pos h2, h2]
  · rw [if_neg fun z => hn (z.trans h2.symm), h2, tyP_symm]
section
variable {ss : List Stl} {c : List Nat}
theorem ty_join (h : Bes ss c) {i k : Nat} (hi : i < ss.length) (hk : tyAt ss i = k) : k < 6 ∧ join ss i (U6 k) (V6 k) ∧ join ss i (V6 k) (U6 k) := by
  obtain ⟨s, hs⟩ : ∃ s, ss[i]? = some s := ⟨ss[i], by simp [hi]⟩
  have hm := List.mem_of_getElem? hs
  have hn := h.ok.nes s hm
  obtain ⟨j, hj, ht⟩ := h.ty s hm
  have e : tyAt ss i = tyP s.u s.v := by unfold tyAt uAt vAt; rw [hs]
  have hjk : j = k := by
    have := (isTy_iff hj ht hj).mp ht
    rw [← hk, e, this]
  subst hjk
  unfold isTy at ht
  rw [Bool.and_eq_true, decide_eq_true_iff, decide_eq_true_iff] at ht
  refine ⟨hj, ⟨s, hs, .inl ht.1, ?_⟩, ⟨s, hs, .inr ht.2, ?_⟩⟩
  · unfold Stl.other
    rw [if_pos ht.1, ht.2]
  · unfold Stl.other
    rw [if_neg fun z => hn (z.trans ht.2.symm), ht.1]
def allE (ss : List Stl) : List (List Nat) := (List.range 6).flatMap (fun k => pairs (TK ss k)) ++ lots7s.flatMap (choices ss)
theorem allE_len (h : Bes ss c) : (allE ss).length = manyOf c := by
  have l6 := h.l6
  have t : ∀ k, k < 6 → (TK ss k).length = c.getD k 0 := fun k hk => TK_len h hk
  match c, l6 with
  | [c0, c1, c2, c3, c4, c5], _ =>
    have t0 : (TK ss 0).length = c0 := t 0 (by decide)
    have t1 : (TK ss 1).length = c1 := t 1 (by decide)
    have t2 : (TK ss 2).length = c2 := t 2 (by decide)
    have t3 : (TK ss 3).length = c3 := t 3 (by decide)
    have t4 : (TK ss 4).length = c4 := t 4 (by decide)
    have t5 : (TK ss 5).length = c5 := t 5 (by decide)
    have r6 : List.range 6 = [0, 1, 2, 3, 4, 5] := rfl
    unfold allE manyOf pairsN lots7 lots7s prodN
    rw [List.length_append, List.length_flatMap, List.length_flatMap, r6]
    simp only [List.map_cons, List.map_nil, List.sum_cons, List.sum_nil, pairs_len, choices_len, t0, t1, t2, t3, t4, t5, List.foldr_cons, List.foldr_nil, List.foldl_cons, List.foldl_nil, List.getD_cons_zero, List.getD_cons_succ, Nat.one_mul, Nat.mul_one, Nat.add_zero]
    have e1 : c0 * c3 * c5 * c2 = c0 * (c2 * (c3 * c5)) := by ac_rfl
    have e2 : c0 * c4 * c5 * c1 = c0 * (c1 * (c4 * c5)) := by ac_rfl
    have e3 : c1 * c3 * c4 * c2 = c1 * (c2 * (c3 * c4)) := by ac_rfl
    rw [e1, e2, e3]
    simp only [Nat.mul_assoc]
    omega
/-- in the order of their kinds -/
theorem allE_sorted (hlen : ss.length ≤ 16) {e : List Nat} (he : e ∈ allE ss) : e.Pairwise fun i j => tyAt ss i * 100 + i < tyAt ss j * 100 + j := by
  rcases List.mem_append.mp he with q | q
  · obtain ⟨k, _, hk⟩ := List.mem_flatMap.mp q
    obtain ⟨x, y, rfl, hs⟩ := pairs_mem hk
    have h1 := (TK_sorted ss k).sublist hs
    have hx := TK_mem.mp (hs.subset (by simp : x ∈ [x, y]))
    have hy := TK_mem.mp (hs.subset (by simp : y ∈ [x, y]))
    have hxy : x < y := by simpa using h1
    simp [hx.2, hy.2, hxy]
  · obtain ⟨lot, hl, hc⟩ := List.mem_flatMap.mp q
    obtain ⟨h1, h2⟩ := choices_mem.mp hc
    have hls : lot.Pairwise (· < ·) := by
      have : ∀ l ∈ lots7s, l.Pairwise (· < ·) := by decide
      exact this lot hl
    rw [← h1, List.pairwise_map] at hls
    refine hls.imp_of_mem fun {i j} hi hj hij => ?_
    have := h2 i hi
    have := h2 j hj
    omega
theorem allE_inj (hlen : ss.length ≤ 16) {e e' : List Nat} (he : e ∈ allE ss) (he' : e' ∈ allE ss) (h : ∀ i, i ∈ e ↔ i ∈ e') : e = e' := by
  have s1 := allE_sorted hlen he
  have s2 := allE_sorted hlen he'
  have n1 : e.Nodup := s1.imp fun h z => by rw [z] at h; omega
  have n2 : e'.Nodup := s2.imp fun h z => by rw [z] at h; omega
  refine List.Perm.eq_of_pairwise (le := fun i j => tyAt ss i * 100 + i < tyAt ss j * 100 + j) (fun a b _ _ h1 h2 => absurd h1 (by omega)) s1 s2 ((List.perm_ext_iff_of_nodup n1 n2).mpr h)
theorem allE_nodup (ss : List Stl) : (allE ss).Nodup := by
  have pt : ∀ {k : Nat} {e : List Nat}, e ∈ pairs (TK ss k) → ∃ x y, e = [x, y] ∧ tyAt ss x = k := fun {k e} he => by
    obtain ⟨x, y, rfl, hs⟩ := pairs_mem he
    exact ⟨x, y, rfl, (TK_mem.mp (hs.subset (by simp : x ∈ [x, y]))).2⟩
  unfold allE
  rw [List.nodup_append]
  refine ⟨?_, ?_, ?_⟩
  · rw [List.nodup_iff_pairwise_ne, List.pairwise_flatMap]
    refine ⟨fun k _ => List.nodup_iff_pairwise_ne.mp (pairs_nodup (sorted_nodup (TK_sorted ss k))), ?_⟩
    refine (List.nodup_iff_pairwise_ne.mp List.nodup_range).imp fun {a b} hab x hx y hy z => ?_
    subst z
    obtain ⟨p, q, h1, h2⟩ := pt hx
    obtain ⟨p', q', h3, h4⟩ := pt hy
    rw [h1] at h3
    injection h3 with h5 h6
    rw [← h5, h2] at h4
    exact hab h4
  · rw [List.nodup_iff_pairwise_ne, List.pairwise_flatMap]
    refine ⟨fun lot _ => List.nodup_iff_pairwise_ne.mp (choices_nodup ss lot), ?_⟩
    have : lots7s.Pairwise (· ≠ ·) := by decide
    refine this.imp fun {a b} hab x hx y hy z => ?_
    subst z
    exact hab ((choices_mem.mp hx).1.symm.trans (choices_mem.mp hy).1)
  · intro a ha b hb z
    subst z
    obtain ⟨k, _, hk⟩ := List.mem_flatMap.mp ha
    obtain ⟨lot, hl, hc⟩ := List.mem_flatMap.mp hb
    obtain ⟨x, y, rfl, _⟩ := pt hk
    have h1 := (choices_mem.mp hc).1
    have : ∀ l ∈ lots7s, 3 ≤ l.length := by decide
    have := this lot hl
    rw [← h1] at this
    simp at this
def chk3 : Bool := (List.range 4).all fun a => (List.range 4).all fun b => (List.range 4).all fun c => a == b || b == c || c == a || lots7s.any fun lot => [tyP a b, tyP b c, tyP c a].isPerm lot
def chk4 : Bool := (List.range 4).all fun a => (List.range 4).all fun b => (List.range 4).all fun c => (List.range 4).all fun d => a == b || b == c || c == d || d == a || a == c || b == d || lots7s.any fun lot => [tyP a b, tyP b c, tyP c d, tyP d a].isPerm lot
theorem chk3_ok : chk3 = true := by decide +kernel
theorem chk4_ok : chk4 = true := by decide +kernel
theorem dec3 (a : Nat) (ha : a < 4) (b : Nat) (hb : b < 4) (c : Nat) (hc : c < 4) (h1 : a ≠ b) (h2 : b ≠ c) (h3 : c ≠ a) : (lots7s.any fun lot => [tyP a b, tyP b c, tyP c a].isPerm lot) = true := by
  have h := chk3_ok
  unfold chk3 at h
  have g := List.all_eq_true.mp (List.all_eq_true.mp (List.all_eq_true.mp h a (List.mem_range.mpr ha)) b (List.mem_range.mpr hb)) c (List.mem_range.mpr hc)
  simpa [h1, h2, h3] using g
theorem dec4 (a : Nat) (ha : a < 4) (b : Nat) (hb : b < 4) (c : Nat) (hc : c < 4) (d : Nat) (hd : d < 4) (h1 : a ≠ b) (h2 : b ≠ c) (h3 : c ≠ d) (h4 : d ≠ a) (h5 : a ≠ c) (h6 : b ≠ d) : (lots7s.any fun lot => [tyP a b, tyP b c, tyP c d, tyP d a].isPerm lot) = true := by
  have h := chk4_ok
  unfold chk4 at h
  have g := List.all_eq_true.mp (List.all_eq_true.mp (List.all_eq_true.mp (List.all_eq_true.mp h a (List.mem_range.mpr ha)) b (List.mem_range.mpr hb)) c (List.mem_range.mpr hc)) d (List.mem_range.mpr hd)
  simpa [h1, h2, h3, h4, h5, h6] using g
/-- every ring is told by one of them -/
theorem ring_E (h : Bes ss c) {r : Way} (hr : IsRing ss r) : ∃ e ∈ allE ss, ∀ i, i ∈ e ↔ i ∈ r.map (·.1) := by
  have hne := h.ok.nes
  obtain ⟨a, hw, hl, n1, n2⟩ := id hr
  have w4 : ∀ x ∈ r, x.2 < 4 := fun x hx => (hw.touch h.ok hx).2
  have l4 : r.length ≤ 4 := by
    have := nodup_lt n2 (n := 4) fun b hb => by
      obtain ⟨x, hx, rfl⟩ := List.mem_map.mp hb
      exact w4 x hx
    rwa [List.length_map] at this
  have jn : ∀ {k : Nat} {x y : Nat × Nat}, r[k]? = some x → r[k + 1]? = some y → join ss x.1 x.2 y.2 := fun {k x y} hx hy => hw.next hx hy
  have jl : ∀ {k : Nat} {x : Nat × Nat}, r[k]? = some x → k + 1 = r.length → join ss x.1 x.2 a := fun {k x} hx hk => hw.last hx hk
  have hh := hw.head
  have fromLot : ∀ (q : List Nat), (∀ i, i ∈ q ↔ i ∈ r.map (·.1)) → (∀ i ∈ q, i < ss.length) → (∃ lot ∈ lots7s, (q.map (tyAt ss)).isPerm lot = true) → ∃ e ∈ allE ss, ∀ i, i ∈ e ↔ i ∈ r.map (·.1) := by
    rintro q hq hlt ⟨lot, hlot, hp⟩
    obtain ⟨e, he, hep⟩ := choices_perm (List.isPerm_iff.mp hp) hlt
    exact ⟨e, List.mem_append_right _ (List.mem_flatMap.mpr ⟨lot, hlot, he⟩), fun i => by rw [hep.mem_iff, hq i]⟩
  have shape : (∃ x y, r = [x, y]) ∨ (∃ x y z, r = [x, y, z]) ∨ ∃ x y z t, r = [x, y, z, t] := by
    match r, hl, l4 with
    | [x, y], _, _ => exact .inl ⟨x, y, rfl⟩
    | [x, y, z], _, _ => exact .inr (.inl ⟨x, y, z, rfl⟩)
    | [x, y, z, t], _, _ => exact .inr (.inr ⟨x, y, z, t, rfl⟩)
  rcases shape with ⟨x, y, rfl⟩ | ⟨x, y, z, rfl⟩ | ⟨x, y, z, t, rfl⟩
  · have ha : x.2 = a := by simpa using hh
    have j0 := join_ty hne (jn (k := 0) rfl rfl)
    have j1 := join_ty hne (jl (k := 1) rfl rfl)
    rw [← ha] at j1
    have hxy : x.1 ≠ y.1 := by simpa using n1
    have hk := (ty_join h j0.2.1 rfl).1
    have m0 : x.1 ∈ TK ss (tyAt ss x.1) := TK_mem.mpr ⟨j0.2.1, rfl⟩
    have m1 : y.1 ∈ TK ss (tyAt ss x.1) := TK_mem.mpr ⟨j1.2.1, by rw [j1.1, j0.1, tyP_symm]⟩
    rcases pairs_in m0 m1 hxy with q | q
    · exact ⟨_, List.mem_append_left _ (List.mem_flatMap.mpr ⟨_, List.mem_range.mpr hk, q⟩), fun i => by simp⟩
    · exact ⟨_, List.mem_append_left _ (List.mem_flatMap.mpr ⟨_, List.mem_range.mpr hk, q⟩), fun i => by simp; exact Or.comm⟩
  · have ha : x.2 = a := by simpa using hh
    have j0 := join_ty hne (jn (k := 0) rfl rfl)
    have j1 := join_ty hne (jn (k := 1) rfl rfl)
    have j2 := join_ty hne (jl (k := 2) rfl rfl)
    rw [← ha] at j2
    refine fromLot [x.1, y.1, z.1] (fun i => by simp) (fun i hi => ?_) ?_
    · simp only [List.mem_cons, List.not_mem_nil, or_false] at hi
      rcases hi with rfl | rfl | rfl
      · exact j0.2.1
      · exact j1.2.1
      · exact j2.2.1
    · simp only [List.map_cons, List.map_nil, j0.1, j1.1, j2.1]
      refine List.any_eq_true.mp (dec3 _ (w4 x (by simp)) _ (w4 y (by simp)) _ (w4 z (by simp)) j0.2.2 j1.2.2 j2.2.2)
  · have ha : x.2 = a := by simpa using hh
    have j0 := join_ty hne (jn (k := 0) rfl rfl)
    have j1 := join_ty hne (jn (k := 1) rfl rfl)
    have j2 := join_ty hne (jn (k := 2) rfl rfl)
    have j3 := join_ty hne (jl (k := 3) rfl rfl)
    rw [← ha] at j3
    have n2' : x.2 ≠ z.2 ∧ y.2 ≠ t.2 := by
      simp at n2
      exact ⟨n2.1.2.1, n2.2.1.2⟩
    refine fromLot [x.1, y.1, z.1, t.1] (fun i => by simp) (fun i hi => ?_) ?_
    · simp only [List.mem_cons, List.not_mem_nil, or_false] at hi
      rcases hi with rfl | rfl | rfl | rfl
      · exact j0.2.1
      · exact j1.2.1
      · exact j2.2.1
      · exact j3.2.1
    · simp only [List.map_cons, List.map_nil, j0.1, j1.1, j2.1, j3.1]
      refine List.any_eq_true.mp (dec4 _ (w4 x (by simp)) _ (w4 y (by simp)) _ (w4 z (by simp)) _ (w4 t (by simp)) j0.2.2 j1.2.2 j2.2.2 j3.2.2 n2'.1 n2'.2)
/-- each of them is a ring -/
theorem E_ring (h : Bes ss c) {e : List Nat} (he : e ∈ allE ss) : ∃ r, IsRing ss r ∧ ∀ i, i ∈ e ↔ i ∈ r.map (·.1) := by
  have tj : ∀ {i k : Nat}, i < ss.length → tyAt ss i = k → join ss i (U6 k) (V6 k) ∧ join ss i (V6 k) (U6 k) := fun {i k} hi hk => (ty_join h hi hk).2
  have tne : ∀ {i j p q : Nat}, tyAt ss i = p → tyAt ss j = q → p ≠ q → i ≠ j := fun {i j p q} h1 h2 h3 z => h3 (by rw [← h1, ← h2, z])
  have three : ∀ {i j l a b c : Nat}, join ss i a b → join ss j b c → join ss l c a → [i, j, l].Nodup → [a, b, c].Nodup → IsRing ss [(i, a), (j, b), (l, c)] := fun {i j l a b c} h1 h2 h3 n1 n2 => ⟨a, walk_step (walk_step (walk_step (.nil a) h1) h2) h3, by simp, by simpa using n1, by simpa using n2⟩
  have four : ∀ {i j l m a b c d : Nat}, join ss i a b → join ss j b c → join ss l c d → join ss m d a → [i, j, l, m].Nodup → [a, b, c, d].Nodup → IsRing ss [(i, a), (j, b), (l, c), (m, d)] := fun {i j l m a b c d} h1 h2 h3 h4 n1 n2 => ⟨a, walk_step (walk_step (walk_step (walk_step (.nil a) h1) h2) h3) h4, by simp, by simpa using n1, by simpa using n2⟩
  have three' : ∀ {i j l p q s : Nat}, tyAt ss i = p → tyAt ss j = q → tyAt ss l = s → p ≠ q → p ≠ s → q ≠ s → [i, j, l].Nodup := fun {i j l p q s} h1 h2 h3 n1 n2 n3 => by
    simp [tne h1 h2 n1, tne h1 h3 n2, tne h2 h3 n3]
  have four' : ∀ {i j l m p q s t : Nat}, tyAt ss i = p → tyAt ss j = q → tyAt ss l = s → tyAt ss m = t → [p, q, s, t].Nodup → [i, j, l, m].Nodup := fun {i j l m p q s t} h1 h2 h3 h4 hn => by
    subst h1 h2 h3 h4
    have : ([i, j, l, m].map (tyAt ss)).Nodup := hn
    rw [List.nodup_iff_pairwise_ne, List.pairwise_map] at this
    exact List.nodup_iff_pairwise_ne.mpr (this.imp fun h z => h (by rw [z]))
  rcases List.mem_append.mp he with q | q
  · obtain ⟨k, _, hk⟩ := List.mem_flatMap.mp q
    obtain ⟨x, y, rfl, hs⟩ := pairs_mem hk
    have hx := TK_mem.mp (hs.subset (by simp : x ∈ [x, y]))
    have hy := TK_mem.mp (hs.subset (by simp : y ∈ [x, y]))
    have hn := (sorted_nodup (TK_sorted ss k)).sublist hs
    have jx := tj hx.1 hx.2
    have jy := tj hy.1 hy.2
    have huv := (join_ty h.ok.nes jx.1).2.2
    exact ⟨[(x, U6 k), (y, V6 k)], ⟨U6 k, walk_step (walk_step (.nil _) jx.1) jy.2, by simp, by simpa using hn, by simpa using huv⟩, fun i => by simp⟩
  · obtain ⟨lot, hl, hc⟩ := List.mem_flatMap.mp q
    obtain ⟨h1, h2⟩ := choices_mem.mp hc
    have lotc : lot = [0, 1, 3] ∨ lot = [0, 2, 4] ∨ lot = [1, 2, 5] ∨ lot = [3, 4, 5] ∨ lot = [0, 2, 3, 5] ∨ lot = [0, 1, 4, 5] ∨ lot = [1, 2, 3, 4] := by
      simpa [lots7s] using hl
    have get3 : ∀ {p q s : Nat}, lot = [p, q, s] → ∃ i j l, e = [i, j, l] ∧ (i < ss.length ∧ tyAt ss i = p) ∧ (j < ss.length ∧ tyAt ss j = q) ∧ l < ss.length ∧ tyAt ss l = s := by
      intro p q s hlot
      rw [hlot] at h1
      match e, h1, h2 with
      | [i, j, l], h1, h2 =>
        simp only [List.map_cons, List.map_nil, List.cons.injEq, and_true] at h1
        exact ⟨i, j, l, rfl, ⟨h2 i (by simp), h1.1⟩, ⟨h2 j (by simp), h1.2.1⟩, h2 l (by simp), h1.2.2⟩
    have get4 : ∀ {p q s t : Nat}, lot = [p, q, s, t] → ∃ i j l m, e = [i, j, l, m] ∧ (i < ss.length ∧ tyAt ss i = p) ∧ (j < ss.length ∧ tyAt ss j = q) ∧ (l < ss.length ∧ tyAt ss l = s) ∧ m < ss.length ∧ tyAt ss m = t := by
      intro p q s t hlot
      rw [hlot] at h1
      match e, h1, h2 with
      | [i, j, l, m], h1, h2 =>
        simp only [List.map_cons, List.map_nil, List.cons.injEq, and_true] at h1
        exact ⟨i, j, l, m, rfl, ⟨h2 i (by simp), h1.1⟩, ⟨h2 j (by simp), h1.2.1⟩, ⟨h2 l (by simp), h1.2.2.1⟩, h2 m (by simp), h1.2.2.2⟩
    have sw3 : ∀ {i j l : Nat} {x : Nat}, (x ∈ [i, j, l] ↔ x ∈ [i, l, j]) := fun {i j l x} => by
      simp only [List.mem_cons, List.not_mem_nil, or_false]
      constructor <;> (rintro (h | h | h) <;> simp [h])
    rcases lotc with hh | hh | hh | hh | hh | hh | hh
    · obtain ⟨i, j, l, rfl, a, b, c⟩ := get3 hh
      exact ⟨_, three (tj a.1 a.2).1 (tj c.1 c.2).1 (tj b.1 b.2).2 (three' a.2 c.2 b.2 (by decide) (by decide) (by decide)) (by decide), fun x => by simpa using sw3 (x := x)⟩
    · obtain ⟨i, j, l, rfl, a, b, c⟩ := get3 hh
      exact ⟨_, three (tj a.1 a.2).1 (tj c.1 c.2).1 (tj b.1 b.2).2 (three' a.2 c.2 b.2 (by decide) (by decide) (by decide)) (by decide), fun x => by simpa using sw3 (x := x)⟩
    · obtain ⟨i, j, l, rfl, a, b, c⟩ := get3 hh
      exact ⟨_, three (tj a.1 a.2).1 (tj c.1 c.2).1 (tj b.1 b.2).2 (three' a.2 c.2 b.2 (by decide) (by decide) (by decide)) (by decide), fun x => by simpa using sw3 (x := x)⟩
    · obtain ⟨i, j, l, rfl, a, b, c⟩ := get3 hh
      exact ⟨_, three (tj a.1 a.2).1 (tj c.1 c.2).1 (tj b.1 b.2).2 (three' a.2 c.2 b.2 (by decide) (by decide) (by decide)) (by decide), fun x => by simpa using sw3 (x := x)⟩
    · obtain ⟨i, j, l, m, rfl, a, b, c, d⟩ := get4 hh
      refine ⟨_, four (tj a.1 a.2).1 (tj c.1 c.2).1 (tj d.1 d.2).1 (tj b.1 b.2).2 (four' a.2 c.2 d.2 b.2 (by decide)) (by decide), fun x => ?_⟩
      simp only [List.map_cons, List.map_nil, List.mem_cons, List.not_mem_nil, or_false]
      constructor <;> (rintro (h | h | h | h) <;> simp [h])
    · obtain ⟨i, j, l, m, rfl, a, b, c, d⟩ := get4 hh
      refine ⟨_, four (tj a.1 a.2).1 (tj c.1 c.2).1 (tj d.1 d.2).2 (tj b.1 b.2).2 (four' a.2 c.2 d.2 b.2 (by decide)) (by decide), fun x => ?_⟩
      simp only [List.map_cons, List.map_nil, List.mem_cons, List.not_mem_nil, or_false]
      constructor <;> (rintro (h | h | h | h) <;> simp [h])
    · obtain ⟨i, j, l, m, rfl, a, b, c, d⟩ := get4 hh
      refine ⟨_, four (tj a.1 a.2).1 (tj c.1 c.2).2 (tj d.1 d.2).1 (tj b.1 b.2).2 (four' a.2 c.2 d.2 b.2 (by decide)) (by decide), fun x => ?_⟩
      simp only [List.map_cons, List.map_nil, List.mem_cons, List.not_mem_nil, or_false]
      constructor <;> (rintro (h | h | h | h) <;> simp [h])
theorem rel_len {α β : Type} [BEq β] [LawfulBEq β] {A : List α} {B : List β} (R : α → β → Prop) (hA : A.Nodup) (h : ∀ a ∈ A, ∃ b ∈ B, R a b) (hi : ∀ a ∈ A, ∀ a' ∈ A, ∀ b, R a b → R a' b → a = a') : A.length ≤ B.length := by
  induction A generalizing B with
  | nil => exact Nat.zero_le _
  | cons a A ih =>
    obtain ⟨h1, h2⟩ := List.nodup_cons.mp hA
    obtain ⟨b, hb, hr⟩ := h a (List.mem_cons_self ..)
    have := ih (B := B.erase b) h2 (fun a' ha' => by
      obtain ⟨b', hb', hr'⟩ := h a' (List.mem_cons_of_mem _ ha')
      refine ⟨b', (List.mem_erase_of_ne fun z => ?_).mpr hb', hr'⟩
      subst z
      have := hi a (List.mem_cons_self ..) a' (List.mem_cons_of_mem _ ha') b' hr hr'
      subst this
      exact h1 ha') fun a' ha' a'' ha'' => hi a' (List.mem_cons_of_mem _ ha') a'' (List.mem_cons_of_mem _ ha'')
    rw [List.length_erase_of_mem hb] at this
    have := List.length_pos_of_mem hb
    rw [List.length_cons]
    omega
theorem beside_count (h : Bes ss c) {L : List Way} (hL : RingsOf ss L) : L.length = manyOf c := by
  have hne := h.ok.nes
  have hlen := h.ok.len
  rw [← allE_len h]
  have ringOf : ∀ {z : Way}, z ∈ L → IsRing ss z := fun {z} hz => by
    obtain ⟨r, hr, rfl⟩ := (hL.mem z).mp hz
    exact least_ring hne hr
  have h1 : L.length ≤ (allE ss).length := rel_len (fun (x : Way) (e : List Nat) => ∀ i : Nat, i ∈ e ↔ i ∈ x.map (fun p : Nat × Nat => p.1)) hL.nd (fun x hx => ring_E h (ringOf hx)) fun x hx y hy e h1 h2 => L_inj hne hL hx hy fun i => (h1 i).symm.trans (h2 i)
  have h2 : (allE ss).length ≤ L.length := rel_len (fun (e : List Nat) (x : Way) => ∀ i : Nat, i ∈ e ↔ i ∈ x.map (fun p : Nat × Nat => p.1)) (allE_nodup ss) (fun e he => by
    obtain ⟨r, hr, hi⟩ := E_ring h he
    refine ⟨least ss r, (hL.mem _).mpr ⟨r, hr, rfl⟩, fun i => ?_⟩
    rw [hi i, (least_same (ss := ss) hr.ne).idx.mem_iff]) fun e he e' he' x h1 h2 => allE_inj hlen he he' fun i => (h1 i).trans (h2 i).symm
  omega
/-- none of them is uneven -/
theorem beside_even (h : Bes ss c) {L : List Way} (hL : RingsOf ss L) : L.filter (uneven ss) = [] := by
  rw [List.filter_eq_nil_iff]
  intro x hx hu
  obtain ⟨r, hr, rfl⟩ := (hL.mem x).mp hx
  obtain ⟨a, hw, _⟩ := least_ring h.ok.nes hr
  have key : ∀ p : Way, Steps ss p → prodR (heldAt ss) p = prodR (fun x => heldAt ss (x.1, otherAt ss x)) p := by
    intro p
    induction p with
    | nil => intro _; rfl
    | cons x p ih =>
      intro hs
      show heldAt ss x * prodR (heldAt ss) p = heldAt ss (x.1, otherAt ss x) * prodR (fun x => heldAt ss (x.1, otherAt ss x)) p
      rw [ih fun y hy => hs y (List.mem_cons_of_mem _ hy)]
      congr 1
      obtain ⟨s, h1, _⟩ := hs x (List.mem_cons_self ..)
      have he := h.ev s (List.mem_of_getElem? h1)
      have e1 : ∀ w, heldAt ss (x.1, w) = s.a := fun w => by
        rw [heldAt_at h1]
        unfold Stl.held
        split
        · rfl
        · exact he.symm
      exact (e1 x.2).trans (e1 _).symm
  unfold uneven at hu
  rw [hPro_eq, tPro_eq, key _ hw.steps] at hu
  simp at hu
end
end K43
set_option Elab.async false
set_option linter.all false
set_option maxRecDepth 100000
set_option maxHeartbeats 4000000
set_option pp.maxSteps 800
/-! k43, part FP: _law_beside_right. -/
namespace K43
open PySem PySem.Spec L2 Evl C8
theorem isTy_new {k j : Nat} (hk : k < 6) (hj : j < 6) {a b r : Rat} : isTy j ⟨U6 k, V6 k, a, b, r⟩ = decide (j = k) := by
  have h : isTy k ⟨U6 k, V6 k, a, b, r⟩ = true := by simp [isTy]
  rw [Bool.eq_iff_iff, isTy_iff hk h hj, decide_eq_true_iff, tyP_UV k hk]
  exact eq_comm
theorem UV_lt : ∀ k, k < 6 → U6 k < 4 ∧ V6 k < 4 ∧ U6 k ≠ V6 k := by decide
theorem le_sumN : ∀ {l : List Nat} {x : Nat}, x ∈ l → x ≤ l.sum
  | y :: l, x, h => by
    rw [List.sum_cons]
    rcases List.mem_cons.mp h with rfl | h
    · omega
    · have := le_sumN h
      omega
/-- the stalls so far: of the first k kinds as many as told, and t of the next -/
structure BesAt (ss : List Stl) (c : List Nat) (k t : Nat) : Prop where
  ok : ∀ s ∈ ss, s.Ok 4 ∧ s.a = s.b ∧ ∃ j, j < 6 ∧ isTy j s = true
  cnt : ∀ j, j < 6 → ss.countP (isTy j) = if j < k then c.getD j 0 else if j = k then t else 0
  len : ss.length = (c.take k).sum + t
theorem BesAt.push {ss : List Stl} {c : List Nat} {k t : Nat} (h : BesAt ss c k t) (hk : k < 6) {r : Rat} (h0 : 0 < r) (hr : Sz 3 r) : BesAt (ss ++ [⟨U6 k, V6 k, r * 1, r / 1, r⟩]) c k (t + 1) where
  ok := fun s hs => by
    rcases List.mem_append.mp hs with q | q
    · exact h.ok s q
    · rw [List.mem_singleton.mp q]
      obtain ⟨h1, h2, h3⟩ := UV_lt k hk
      refine ⟨stl_ok h1 h2 h3 h0 hr (by decide) (sz_one 50 (by decide)), ?_, k, hk, by simp [isTy]⟩
      show r * 1 = r / 1
      rw [Rat.mul_one, Rat.div_def, Rat.inv_eq_of_mul_eq_one (Rat.mul_one 1), Rat.mul_one]
  cnt := fun j hj => by
    rw [List.countP_append, h.cnt j hj, List.countP_cons, List.countP_nil, isTy_new hk hj]
    by_cases h1 : j < k
    · have : ¬ j = k := by omega
      simp [h1, this]
    · by_cases h2 : j = k
      · simp [h2]
      · simp [h1, h2]
  len := by rw [List.length_append, List.length_singleton, h.len]; omega
theorem BesAt.next {ss : List Stl} {c : List Nat} {k x : Nat} (h : BesAt ss (c ++ [x]) k x) (hc : c.length = k) : BesAt ss (c ++ [x]) (k + 1) 0 where
  ok := h.ok
  cnt := fun j hj => by
    rw [h.cnt j hj]
    by_cases h1 : j < k
    · rw [if_pos h1, if_pos (by omega)]
    · by_cases h2 : j = k
      · subst h2
        have e : (c ++ [x]).getD j 0 = x := by
          rw [List.getD_eq_getElem?_getD, List.getElem?_append_right (by omega), hc, Nat.sub_self]
          rfl
        rw [if_neg h1, if_pos rfl, if_pos (by omega), e]
      · rw [if_neg h1, if_neg h2, if_neg (by omega)]
        split <;> rfl
  len := by
    rw [h.len]
    have e1 : (c ++ [x]).take k = c := by rw [← hc, List.take_left]
    have e2 : (c ++ [x]).take (k + 1) = c ++ [x] := List.take_of_length_le (by rw [List.length_append, List.length_singleton]; omega)
    rw [e1, e2, List.sum_append]
    simp
theorem BesAt.more {ss : List Stl} {c : List Nat} {k : Nat} (h : BesAt ss c k 0) (hc : c.length = k) (x : Nat) : BesAt ss (c ++ [x]) k 0 where
  ok := h.ok
  cnt := fun j hj => by
    rw [h.cnt j hj]
    by_cases h1 : j < k
    · rw [if_pos h1, if_pos h1, List.getD_eq_getElem?_getD, List.getD_eq_getElem?_getD, List.getElem?_append_left (by omega)]
    · rw [if_neg h1, if_neg h1]
  len := by
    rw [h.len, ← hc, List.take_left, List.take_length]
theorem BesAt.bes {ss ss' : List Stl} {c : List Nat} (h : BesAt ss c 6 0) (hc : c.length = 6) (hs : c.sum ≤ 16) (hp : ss'.Perm ss) : Bes ss' c where
  l6 := hc
  ok := ⟨by decide, by decide, by rw [hp.length_eq, h.len, List.take_of_length_le (by omega)]; omega, fun s hs => (h.ok s (hp.mem_iff.mp hs)).1⟩
  ev := fun s hs => (h.ok s (hp.mem_iff.mp hs)).2.1
  ty := fun s hs => (h.ok s (hp.mem_iff.mp hs)).2.2
  cnt := fun k hk => by rw [hp.countP_eq, h.cnt k hk, if_pos hk]
section
variable {P : Program} {w : World} {K : PySem.W.Frag} {mg : Str → Option Value} {base : Heap} {cE cW cT : Addr} {σ : L2.St} {H : Hp} {te tx tl : TE}
def pWS (K : PySem.W.Frag) (C : Addr) (n : Nat) (ss : List Stl) : PD := ⟨fun v H => ∃ ss' : List Stl, ss'.Perm ss ∧ (pW K C n ss').p v H, fun e ⟨ss', h1, h2⟩ => ⟨ss', h1, PD.up _ e h2⟩⟩
theorem ep_mkWS {t : TA} {n : Nat} {ss : List Stl} (hok : WOk n ss) (h : EvPA t σ H [pI (n : Nat), pShuf K ss]) : EvP (tMake cW (spInitW K cW) [] L2.E0 t) σ H (pWS K cW n ss) := fun H1 e Q q =>
  h H1 e _ fun vs H2 e2 ps x dx hx hdx hne => by
    obtain ⟨v, r, rfl, p, v2, r2, rfl, ⟨ss', hp, p2⟩, e3⟩ := ps
    cases e3
    cases p
    have hok' : WOk n ss' := ⟨hok.n1, hok.n8, by rw [hp.length_eq]; exact hok.len, fun s hs => hok.ok s (hp.mem_iff.mp hs)⟩
    obtain ⟨l, xs, rfl, hl, hxs⟩ := Dp.lst_inv p2
    have ex2 : Ex H2 (upd (upd H2 dx (.own x)) x (.ins cW dx [])) := fun c o z => by
      rw [upd_ne (ne_of_none z hx), upd_ne (ne_of_none z hdx)]
      exact z
    refine ⟨x, dx, l, n, ss', rfl, upd_same, hok', Dp.up ex2 p2, fun H' t ys k hp' ht hy => ⟨rfl, q _ H' (e2.trans fun c o z => k c o (ex2 c o z) (ne_of_none z hx)) ⟨ss', hp, t, ys, ⟨x, dx, rfl, hp'⟩, ht, hy⟩⟩⟩
def pCnt (S : Nat) : PD := ⟨fun v _ => ∃ y : Nat, y + S ≤ 16 ∧ v = .int y, fun _ h => h⟩
def pMs : PD := ⟨fun v _ => ∃ m : Nat, 0 < m ∧ m ≤ 16 ∧ v = .int m, fun _ h => h⟩
theorem sum_ofN : ∀ l : List Nat, (ofN l).sum = (l.sum : Nat)
  | [] => rfl
  | x :: l => by
    show (x : Int) + (ofN l).sum = _
    rw [sum_ofN l, List.sum_cons]
    omega
theorem cp_sumN {H0 : Hp} {l : List Nat} : CP (rSum K) [pLN H0 (l.map fun (k : Nat) => pI (k : Int))] H (pI (l.sum : Nat)) := fun vs H1 e ps Q q => by
  obtain ⟨v, _, rfl, ⟨a, xs, rfl, _, h1, h2⟩, er⟩ := ps
  cases er
  have ex := alls_nats h2
  subst ex
  refine ⟨a, ofN l, rfl, SqL.of h1, ?_⟩
  rw [sum_ofN]
  exact q _ H1 (Ex.refl _) rfl
theorem ep_sumN {l : List Nat} {a : Addr} (h : H a = some (.lst ((ofN l).map V.int))) (ht : EvP te σ H (pV (.ref a))) : EvP (tCB (rSum K) (tCons te tNil)) σ H (pI (l.sum : Nat)) := fun H1 e Q q => ht H1 e _ fun v H2 e2 p => by
  obtain rfl : v = V.ref a := p
  refine ⟨a, ofN l, rfl, SqL.of ((e.trans e2) _ _ h), ?_⟩
  rw [sum_ofN]
  exact q _ H2 e2 rfl
theorem ep_drawM {cs : List Int} {E : XK} {t1 t2 : TE} (hcs : ∀ i ∈ cs, 0 ≤ i) (h1 : EvP t1 σ H (pHand cs)) (h2 : EvP t2 σ H pMs) : EvP (tCall spDraw [] E (tCons t1 (tCons t2 tNil))) σ H (pDr 16) :=
  ep_callS (ea_cons h1 (ea_cons h2 ea_nil)) fun vs H1 e1 ps Q E q => by
    obtain ⟨v1, _, rfl, p1, v2, _, rfl, ⟨m, h0, h16, rfl⟩, er⟩ := ps
    cases er
    refine ⟨(cs, m), ⟨hcs, h0, by show m < 1000; omega⟩, ⟨_, _, rfl, p1, _, _, rfl, rfl, rfl⟩, fun v H' e' p' => q v H' e' ?_⟩
    obtain ⟨k, hk, rfl⟩ := p'
    exact ⟨k, Nat.lt_of_lt_of_le hk h16, rfl⟩
theorem ep_pick3 {cs : List Int} {E : XK} {t1 : TE} (hcs : ∀ i ∈ cs, 0 ≤ i) (h1 : EvP t1 σ H (pHand cs)) : EvP (tOp (rIxL K) (tLst (tCons (tC (.int 3)) (tCons (tC (.int 4)) (tCons (tC (.int 16)) tNil)))) (tCall spDraw [] E (tCons t1 (tCons (tC (.int 3)) tNil)))) σ H pMs :=
  ep_op (ep_lst (K := K) (Ps := [pI 3, pI 4, pI 16]) (ea_cons ep_i (ea_cons ep_i (ea_cons ep_i ea_nil))) (by simp)) (ep_draw (m := 3) hcs (by decide) (by decide) (ea_cons h1 (ea_cons ep_i ea_nil))) fun a b H1 e pa pb Q q => by
    obtain ⟨k, hk, rfl⟩ := pb
    have get : ∀ {P : PD}, ([pI 3, pI 4, pI 16] : List PD)[k]? = some P → (∀ v H, P.p v H → pMs.p v H) → rIxL K a (.int (k : Nat)) H1 Q := fun {P} hP himp => rp_ixLP (H := H1) hP a _ H1 (Ex.refl _) pa rfl Q fun z H2 e2 pz => q z H2 e2 (himp z H2 pz)
    match k, hk with
    | 0, _ => exact get rfl fun v H p => ⟨3, by decide, by decide, p⟩
    | 1, _ => exact get rfl fun v H p => ⟨4, by decide, by decide, p⟩
    | 2, _ => exact get rfl fun v H p => ⟨16, by decide, by decide, p⟩
theorem ep_min16 {t1 t2 : TE} {S : Nat} (hS : S ≤ 16) (h1 : EvP t1 σ H (pDr 16)) (h2 : EvP t2 σ H (pI (16 - (S : Int)))) : EvP (tCB (fun xs H Q => ∃ i j, xs = [.int i, .int j] ∧ Q (.int (if j < i then j else i)) H) (tCons t1 (tCons t2 tNil))) σ H (pCnt S) :=
  ep_cb (ea_cons h1 (ea_cons h2 ea_nil)) fun vs H1 e ps Q q => by
    obtain ⟨v1, _, rfl, ⟨k, hk, rfl⟩, v2, _, rfl, p2, er⟩ := ps
    cases er
    obtain rfl : v2 = V.int (16 - (S : Int)) := p2
    refine ⟨_, _, rfl, q _ H1 (Ex.refl _) ?_⟩
    by_cases h : 16 - (S : Int) < (k : Int)
    · rw [if_pos h]
      exact ⟨16 - S, by omega, by congr 1; omega⟩
    · rw [if_neg h]
      exact ⟨k, by omega, rfl⟩
theorem eqv_strD (x y : Str) (i j : Int) : PyData.eqv (strD x i) (strD y j) = (decide (x = y) && decide (i = j)) := by
  simp only [strD, PyData.eqv, PyData.eqvAll, Bool.and_true]
  rw [Bool.eq_iff_iff]
  simp
theorem shaped_str {x : Str} (hx : PyData.strOk x = true) (i : Int) : SeqAt.shaped (strD x i) = true := by
  unfold SeqAt.shaped strD
  simp only [PyData.canLay0, PyData.canLayAll0, PyData.depth, PyData.depthAll, hx]
  rfl
theorem okTold : PyData.strOk "told" = true := by decide +kernel
theorem okMany : PyData.strOk "many" = true := by decide +kernel
theorem shaped_many (a : ManyA) : SeqAt.shaped (manyD a) = true := by
  unfold manyD
  split
  · split <;> exact shaped_str okTold _
  · exact shaped_str okMany _
theorem ep_six {l : List Nat} {Ps : List PD} {k : Nat} {t : TE} {a0 a1 a2 a3 a4 a5 : Int} {x : Nat} (hx : ([pI a0, pI a1, pI a2, pI a3, pI a4, pI a5] : List PD)[k]? = some (pI (x : Int))) (h : EvP t σ H (pI (k : Nat))) :
    EvP (tOp (rIxL K) (tLst (tCons (tC (.int a0)) (tCons (tC (.int a1)) (tCons (tC (.int a2)) (tCons (tC (.int a3)) (tCons (tC (.int a4)) (tCons (tC (.int a5)) tNil))))))) t) σ H (pI (x : Int)) :=
  ep_op (ep_lst (K := K) (ea_cons ep_i (ea_cons ep_i (ea_cons ep_i (ea_cons ep_i (ea_cons ep_i (ea_cons ep_i ea_nil)))))) (by simp)) h (rp_ixLP hx)
theorem ep_lot3 {a b c : Nat} : EvP (tTup (tCons (tC (.int (a : Nat))) (tCons (tC (.int (b : Nat))) (tCons (tC (.int (c : Nat))) tNil)))) σ H (pD K (lotD [a, b, c])) :=
  (ep_tup (K := K) (ea_cons ep_i (ea_cons ep_i (ea_cons ep_i ea_nil))) (by simp)).imp fun v H' _ p => by
    obtain ⟨t, xs, rfl, h, x, _, rfl, px, y, _, rfl, py, z, _, rfl, pz, e⟩ := p
    cases e
    cases px
    cases py
    cases pz
    exact .tup h (.cons (.int _) (.cons (.int _) (.cons (.int _) .nil)))
theorem ep_lot4 {a b c d : Nat} : EvP (tTup (tCons (tC (.int (a : Nat))) (tCons (tC (.int (b : Nat))) (tCons (tC (.int (c : Nat))) (tCons (tC (.int (d : Nat))) tNil))))) σ H (pD K (lotD [a, b, c, d])) :=
  (ep_tup (K := K) (ea_cons ep_i (ea_cons ep_i (ea_cons ep_i (ea_cons ep_i ea_nil)))) (by simp)).imp fun v H' _ p => by
    obtain ⟨t, xs, rfl, h, x, _, rfl, px, y, _, rfl, py, z, _, rfl, pz, u, _, rfl, pu, e⟩ := p
    cases e
    cases px
    cases py
    cases pz
    cases pu
    exact .tup h (.cons (.int _) (.cons (.int _) (.cons (.int _) (.cons (.int _) .nil))))
theorem half_int (n : Nat) : (n : Int) * ((n : Int) - 1) / 2 = ((n * (n - 1) / 2 : Nat) : Int) := by
  cases n with
  | zero => rfl
  | succ n =>
    have : ((n + 1 : Nat) : Int) - 1 = (n : Int) := by omega
    rw [this, Nat.add_sub_cancel]
    rfl
def spBeside : Sp := spF (fun (cs : List Int) => [pHand cs]) (fun _ => pB true) (fun cs => ∀ i ∈ cs, 0 ≤ i)
theorem ok62 (T : Txt K mg cE cW) (TT : TxtT K mg cT) : Cal P w K mg base 9 "_law_beside_right" spBeside [] := by
  have sc0 : FnScope ["_law_hand_here", "_law_counts", "_law_stalls_here", "_law_k", "_law_turn", "_law_web", "_law_many_here", "_law_lot", "_law_ways", "_law_number"] ["_law_hand_here"] (defScope (top 62)) := ⟨rfl, rfl, rfl, by decide +kernel, rfl, by decide +kernel, by decide +kernel⟩
  refine T.d62.cal sc0 (spF_len fun _ => rfl) fun cdv f A outer s H vs Q E hr h => ?_
  obtain ⟨cs, hcs, ⟨v, _, rfl, ph, er⟩, k⟩ := h
  cases er
  replace ph : (pHand cs).p v H := ph
  replace hcs : ∀ i ∈ cs, 0 ≤ i := hcs
  replace k : ∀ v' H', Ex H H' → (pB true).p v' H' → Q v' H' := k
  refine ⟨_, pss_cons (ps_set (i := 1) sc0.nd rfl (.inl rfl) (pe_lst (pa_nil)))
    (pss_cons (ps_set (i := 2) sc0.nd rfl (.inl rfl) (pe_lst (pa_nil)))
    (pss_cons (ps_for PassesOwn.never rfl (pi_range1 rfl T.b_range (pa_cons (pe_int) (pa_nil))) (pg_name (i := 3) sc0.nd rfl (.inl rfl)) (pss_cons (ps_expr (pe_bm PySem.F.plainAttrs_list PySem.F.slot_list_append PySem.F.type_list_append mt_append (pv 1) (pa_cons (pe_callB (call_min2 rfl) (by rfl) T.b_min (by decide +kernel) (pa_cons (pe_c (ok43 T) hr (by decide) rfl (pa_cons (pv 0) (pa_cons (pe_ix ix_list (pe_lst (pa_cons (pe_int) (pa_cons (pe_int) (pa_cons (pe_int) (pa_nil))))) (pe_c (ok43 T) hr (by decide) rfl (pa_cons (pv 0) (pa_cons (pe_int) (pa_nil)))) (fun _ _ => rfl)) (pa_nil)))) (pa_cons (pe_op op_sub (pe_int) (pe_callB (cr_sum rfl) (by rfl) T.b_sum (by decide +kernel) (pa_cons (pv 1) (pa_nil)))) (pa_nil)))) (pa_nil))))
    (pss_one (ps_for PassesOwn.never rfl (pi_range1 rfl T.b_range (pa_cons (pe_ix ix_list (pv 1) (pv 3) (fun _ _ => rfl)) (pa_nil))) (pg_name (i := 4) sc0.nd rfl (.inl rfl)) (pss_one (ps_expr (pe_bm PySem.F.plainAttrs_list PySem.F.slot_list_append PySem.F.type_list_append mt_append (pv 2) (pa_cons (pe_c (ok52 T) hr (by decide) rfl (pa_cons (pv 0) (pa_cons (pe_ix ix_list (pe_lst (pa_cons (pe_int) (pa_cons (pe_int) (pa_cons (pe_int) (pa_cons (pe_int) (pa_cons (pe_int) (pa_cons (pe_int) (pa_nil)))))))) (pv 3) (fun _ _ => rfl)) (pa_cons (pe_ix ix_list (pe_lst (pa_cons (pe_int) (pa_cons (pe_int) (pa_cons (pe_int) (pa_cons (pe_int) (pa_cons (pe_int) (pa_cons (pe_int) (pa_nil)))))))) (pv 3) (fun _ _ => rfl)) (pa_cons (pe_tup (pa_cons (pe_int) (pa_cons (pe_int) (pa_nil)))) (pa_nil)))))) (pa_nil)))))))))
    (pss_cons (ps_set (i := 5) sc0.nd rfl (.inl rfl) (pe_mk (okInitW T) hr (by decide) rfl (pa_cons (pe_int) (pa_cons (pe_c (ok51 T) hr (by decide) rfl (pa_cons (pv 0) (pa_cons (pv 2) (pa_nil)))) (pa_nil)))))
    (pss_cons (ps_set (i := 6) sc0.nd rfl (.inl rfl) (pe_callB (cr_sum rfl) (by rfl) T.b_sum (by decide +kernel) (pa_cons (pe_lc (own := [("_law_number", 9)]) (g := gName 9) (by rfl) sc0.nd (pi_list (pv 1)) (blkOk_by (N := ["_law_hand_here", "_law_counts", "_law_stalls_here", "_law_k", "_law_turn", "_law_web", "_law_many_here", "_law_lot", "_law_ways", "_law_number"]) (sc := defScope (top 62)) (by decide +kernel)) (fun _ _ _ _ _ => pg_name (i := 9) sc0.nd rfl (.inl rfl)) (fun _ _ _ _ _ => pts_nil) (fun _ _ _ _ _ => pe_op op_fdiv (pe_op op_mul (pv 9) (pe_op op_sub (pv 9) (pe_int))) (pe_int))) (pa_nil))))
    (pss_cons (ps_for PassesOwn.never rfl (pi_list (pe_lst (pa_cons (pe_tup (pa_cons (pe_int) (pa_cons (pe_int) (pa_cons (pe_int) (pa_nil))))) (pa_cons (pe_tup (pa_cons (pe_int) (pa_cons (pe_int) (pa_cons (pe_int) (pa_nil))))) (pa_cons (pe_tup (pa_cons (pe_int) (pa_cons (pe_int) (pa_cons (pe_int) (pa_nil))))) (pa_cons (pe_tup (pa_cons (pe_int) (pa_cons (pe_int) (pa_cons (pe_int) (pa_nil))))) (pa_cons (pe_tup (pa_cons (pe_int) (pa_cons (pe_int) (pa_cons (pe_int) (pa_cons (pe_int) (pa_nil)))))) (pa_cons (pe_tup (pa_cons (pe_int) (pa_cons (pe_int) (pa_cons (pe_int) (pa_cons (pe_int) (pa_nil)))))) (pa_cons (pe_tup (pa_cons (pe_int) (pa_cons (pe_int) (pa_cons (pe_int) (pa_cons (pe_int) (pa_nil)))))) (pa_nil)))))))))) (pg_name (i := 7) sc0.nd rfl (.inl rfl)) (pss_cons (ps_set (i := 8) sc0.nd rfl (.inl rfl) (pe_int))
    (pss_cons (ps_for PassesOwn.never rfl (pi_tup (pv 7)) (pg_name (i := 3) sc0.nd rfl (.inl rfl)) (pss_one (ps_set (i := 8) sc0.nd rfl (.inl rfl) (pe_op op_mul (pv 8) (pe_ix ix_list (pv 1) (pv 3) (fun _ _ => rfl))))))
    (pss_one (ps_set (i := 6) sc0.nd rfl (.inl rfl) (pe_op op_add (pv 6) (pv 8)))))))
    (pss_cons (ps_if (pt_cmpR op_gt (pv 6) (pe_int) (nomark _)) (pss_one (ps_ret (pe_and (pe_cmpR (op_eqD hr.units) (pe_c (ok61 T TT) hr (by decide) rfl (pa_cons (pe_int) (pa_cons (pv 5) (pa_nil)))) (pe_tup (pa_cons (pe_str) (pa_cons (pe_int) (pa_nil)))) (nomark _)) (pe_one (pe_cmpR (op_eqD hr.units) (pe_c (ok61 T TT) hr (by decide) rfl (pa_cons (pe_int) (pa_cons (pv 5) (pa_nil)))) (pe_tup (pa_cons (pe_str) (pa_cons (pe_int) (pa_nil)))) (nomark _)))))) (pss_nil))
    (pss_one (ps_ret (pe_and (pe_cmpR (op_eqD hr.units) (pe_c (ok61 T TT) hr (by decide) rfl (pa_cons (pe_int) (pa_cons (pv 5) (pa_nil)))) (pe_tup (pa_cons (pe_str) (pa_cons (pv 6) (pa_nil)))) (nomark _)) (pe_one (pe_cmpR (op_eqD hr.units) (pe_c (ok61 T TT) hr (by decide) rfl (pa_cons (pe_int) (pa_cons (pv 5) (pa_nil)))) (pe_tup (pa_cons (pe_str) (pa_cons (pe_int) (pa_nil)))) (nomark _)))))))))))), ?_⟩
  refine p_asg (ep_lstN (Ps := []) ea_nil (by simp)) fun v1 H1 e1 p1 => ?_
  obtain ⟨Ca, _, rfl, nC, hC, rfl⟩ := p1
  refine p_asg (ep_lstN (Ps := []) ea_nil (by simp)) fun v2 H2 e2 p2 => ?_
  obtain ⟨Sa, _, rfl, nS, hS, rfl⟩ := p2
  have e02 := e1.trans e2
  have nCS : Ca ≠ Sa := ne_of_none hC nS
  have nSH : H Sa = none := fresh_back e1 nS
  refine p_forR (n := 6) (ea_cons ep_i ea_nil) (by decide) (fun j σ' H' => ∃ c fs ss a3 a4, σ' = [some v, some (.ref Ca), some (.ref Sa), a3, a4, none, none, none, none, none] ∧ Ex H H' ∧ H' Ca = some (.lst ((ofN c).map V.int)) ∧ H' Sa = some (.lst fs) ∧ DpAll K H' fs (ss.map stlD) ∧ c.length = j ∧ c.sum ≤ 16 ∧ BesAt ss c j 0)
    (fun H3 e3 => ⟨[], [], [], none, none, rfl, e02.trans e3, e3 _ _ (e2 _ _ hC), e3 _ _ hS, .nil, rfl, by simp, ⟨by simp, fun j hj => by simp, rfl⟩⟩) ?_ ?_
  · rintro j σ' H3 hj ⟨c, fs, ss, a3, a4, rfl, ex3, hC3, hS3, dS3, hcl, hcs16, hB⟩
    have ph3 := PD.up _ ex3 ph
    have lc : ((ofN c).map V.int).length < 100000 := by rw [List.length_map, ofN_len]; omega
    refine p_app (P := pCnt c.sum) hC3 (ep_vv rfl) (ep_min16 hcs16 (ep_drawM hcs (ep_var rfl ph3) (ep_pick3 hcs (ep_var rfl ph3))) (ep_op ep_i (ep_sumN hC3 (ep_vv rfl)) rp_I0)) lc fun v4 H4 e4 p4 => ?_
    obtain ⟨y, hy, rfl⟩ := p4
    have hC4 := e4 _ _ hC3
    have ex4 := Ex.mut (o := HO.lst ((ofN c).map V.int ++ [V.int (y : Int)])) (ex3.trans e4) nC
    have ec : (ofN c).map V.int ++ [V.int (y : Int)] = (ofN (c ++ [y])).map V.int := by rw [ofN_snoc, List.map_append]; rfl
    rw [ec] at ex4 ⊢
    have hS4 : (upd H4 Ca (.lst ((ofN (c ++ [y])).map V.int))) Sa = some (.lst fs) := by rw [upd_ne nCS.symm]; exact e4 _ _ hS3
    have dS4 : DpAll K (upd H4 Ca (.lst ((ofN (c ++ [y])).map V.int))) fs (ss.map stlD) := DpAll.lst hC4 (noList_stls _) (DpAll.up e4 dS3)
    have hs16 : (c ++ [y]).sum ≤ 16 := by rw [List.sum_append]; simp; omega
    refine p_forR1 (n := y) (ea_cons (ep_ixN (i := j) (x := y) (l := c ++ [y]) upd_same (ep_vv rfl) (ep_vi rfl) (by rw [List.getElem?_append_right (by omega), hcl, Nat.sub_self]; rfl)) ea_nil) (by omega) (fun t σ' H' => ∃ fs ss a4, σ' = [some v, some (.ref Ca), some (.ref Sa), some (.int (j : Nat)), a4, none, none, none, none, none] ∧ Ex H H' ∧ H' Ca = some (.lst ((ofN (c ++ [y])).map V.int)) ∧ H' Sa = some (.lst fs) ∧ DpAll K H' fs (ss.map stlD) ∧ BesAt ss (c ++ [y]) j t)
      (fun H5 e5 => ⟨fs, ss, a4, rfl, ex4.trans e5, e5 _ _ upd_same, e5 _ _ hS4, DpAll.up e5 dS4, hB.more hcl y⟩) ?_ ?_
    · rintro t σ' H5 ht ⟨fs, ss, a4, rfl, ex5, hC5, hS5, dS5, hB5⟩
      have hul : ([pI 0, pI 0, pI 0, pI 1, pI 1, pI 2] : List PD)[j]? = some (pI (U6 j : Nat)) := by
        match j, hj with
        | 0, _ => rfl
        | 1, _ => rfl
        | 2, _ => rfl
        | 3, _ => rfl
        | 4, _ => rfl
        | 5, _ => rfl
      have hvl : ([pI 1, pI 2, pI 3, pI 2, pI 3, pI 3] : List PD)[j]? = some (pI (V6 j : Nat)) := by
        match j, hj with
        | 0, _ => rfl
        | 1, _ => rfl
        | 2, _ => rfl
        | 3, _ => rfl
        | 4, _ => rfl
        | 5, _ => rfl
      have lfs := DpAll.len dS5
      rw [List.length_map, hB5.len] at lfs
      have lct : ((c ++ [y]).take j).sum ≤ 16 := by rw [← hcl, List.take_left]; exact hcs16
      refine p_app1 (P := pStl K (U6 j) (V6 j) 1) hS5 (ep_vv rfl) (ep_stall hcs (by decide) (sz_one 50 (by decide)) (ea_cons (ep_var rfl (PD.up _ ex5 ph)) (ea_cons (ep_six (l := []) (Ps := []) hul (ep_vi rfl)) (ea_cons (ep_six (l := []) (Ps := []) hvl (ep_vi rfl)) (ea_cons (ep_ratOne (K := K)) ea_nil))))) (by omega) fun v6 H6 e6 p6 => ?_
      obtain ⟨r, hr0, hr3, dr⟩ := p6
      have hS6 := e6 _ _ hS5
      refine ⟨fs ++ [v6], ss ++ [⟨U6 j, V6 j, r * 1, r / 1, r⟩], _, rfl, Ex.mut (ex5.trans e6) nSH, ?_, upd_same, ?_, hB5.push hj hr0 hr3⟩
      · rw [upd_ne nCS]
        exact e6 _ _ hC5
      · refine DpAll.lst hS6 (noList_stls _) ?_
        rw [List.map_append]
        exact DpAll.snoc (DpAll.up e6 dS5) dr
    · rintro σ' H5 ⟨fs, ss, a4, rfl, ex5, hC5, hS5, dS5, hB5⟩
      exact ⟨c ++ [y], fs, ss, _, _, rfl, ex5, hC5, hS5, dS5, by rw [List.length_append, List.length_singleton, hcl], hs16, hB5.next hcl⟩
  · rintro σ' H3 ⟨c, fs, ss, a3, a4, rfl, ex3, hC3, hS3, dS3, hcl, hcs16, hB⟩
    have hBes : ∀ {ss' : List Stl}, ss'.Perm ss → Bes ss' c := fun {ss'} hp => hB.bes hcl hcs16 hp
    have hok := (hBes (List.Perm.refl ss)).ok
    refine p_asg (P := pWS K cW 4 ss) (ep_mkWS hok (ea_cons ep_i (ea_cons (ep_shuf hcs (by have := hok.len; omega) (ea_cons (ep_var rfl (PD.up _ ex3 ph)) (ea_cons (ep_var rfl (show (pD K (.list (ss.map stlD))).p (.ref Sa) H3 from .lst (SqL.of hS3) dS3)) ea_nil))) ea_nil))) fun v5 H4 e4 p5 => ?_
    obtain ⟨ss', hperm, pw⟩ := p5
    have hb := hBes hperm
    have hL := rings_law hb.ok.nes
    have hcount := beside_count hb hL
    have heven := beside_even hb hL
    have hC4 := e4 _ _ hC3
    have c16 : ∀ {i x : Nat}, c[i]? = some x → x ≤ 16 := fun {i x} hx => by
      have := le_sumN (List.mem_of_getElem? hx)
      omega
    refine p_asg (P := pI (pairsN c : Nat)) (ep_cb (ea_cons (ep_lcLN (src := fun (k : Nat) => pI (k : Int)) (res := fun n => pI ((n * (n - 1) / 2 : Nat) : Int)) (ep_var rfl (nats_pL (K := K) hC4)) (by omega) (fun _ => rfl) (fun b hb x H5 e5 px => ?g1) (fun b hb => st_I) |>.imp fun v' H' _ p' => ?g2) ea_nil) (cp_sumN (H0 := H4) (l := c.map fun n => n * (n - 1) / 2))) fun v6 H5 e5 p6 => ?_
    case g1 =>
      obtain rfl : x = V.int (b : Int) := px
      have hb16 : b ≤ 16 := by
        have := le_sumN hb
        omega
      exact ep_iis (ep_op (ep_op (ep_vi rfl) (ep_op (ep_vi rfl) ep_i rp_I0) (rp_I (cmulL ⟨by omega, by omega⟩))) ep_i (rp_I ⟨by decide, by decide⟩)) (half_int b)
    case g2 =>
      have e : (c.map fun n => pI ((n * (n - 1) / 2 : Nat) : Int)) = ((c.map fun n => n * (n - 1) / 2).map fun (k : Nat) => pI (k : Int)) := by rw [List.map_map]; rfl
      rw [e] at p'
      exact p'
    cases p6
    have hC5 := e5 _ _ hC4
    have pw5 := PD.up _ e5 pw
    refine p_forLm (P := pLN H5 (lots7.map fun l => pD K (lotD l))) (ep_lstN (ea_cons (ep_lot3 (a := 0) (b := 1) (c := 3)) (ea_cons (ep_lot3 (a := 0) (b := 2) (c := 4)) (ea_cons (ep_lot3 (a := 1) (b := 2) (c := 5)) (ea_cons (ep_lot3 (a := 3) (b := 4) (c := 5)) (ea_cons (ep_lot4 (a := 0) (b := 3) (c := 5) (d := 2)) (ea_cons (ep_lot4 (a := 0) (b := 4) (c := 5) (d := 1)) (ea_cons (ep_lot4 (a := 1) (b := 3) (c := 4) (d := 2)) ea_nil))))))) (by show 7 ≤ 1000; decide)) fun vl H6 e6 p6 => ?_
    obtain ⟨La, xs, rfl, nLa, hLa, aLa⟩ := p6
    have xl := Alls.len aLa
    rw [List.length_map] at xl
    refine ⟨La, xs, rfl, hLa, fun j σ' H' => ∃ a3 a7 a8, σ' = [some v, some (.ref Ca), some (.ref Sa), a3, a4, some v5, some (.int (((lots7.take j).foldl (fun m lot => m + prodN c lot) (pairsN c) : Nat) : Int)), a7, a8, none] ∧ Ex H6 H', ⟨a3, none, none, rfl, Ex.refl _⟩, ?_, ?_, ?_⟩
    · rintro j σ' H' ⟨_, _, _, _, ex⟩
      exact ex _ _ hLa
    · rintro j x σ' H7 hx ⟨b3, b7, b8, rfl, e7⟩
      obtain ⟨P, hP, pP⟩ := Alls.getv aLa hx
      rw [List.getElem?_map] at hP
      cases el : lots7[j]? with
      | none => rw [el] at hP; cases hP
      | some lot =>
      rw [el] at hP
      cases hP
      obtain ⟨ta, us, rfl, hta, dta⟩ := Dp.tup_inv (show Dp K H7 x (.tuple ((ofN lot).map .int)) from Dp.up e7 pP)
      obtain rfl := DpAll.ints dta
      have lot6 : ∀ k ∈ lot, k < 6 := by
        have : ∀ l ∈ lots7, ∀ k ∈ l, k < 6 := by decide
        exact this lot (List.mem_of_getElem? el)
      refine p_asg (P := pI 1) ep_i fun v8 H8 e8 p8 => ?_
      cases p8
      refine p_forT (ep_vv rfl) hta e8 (fun t σ' H' => ∃ a3, σ' = [some v, some (.ref Ca), some (.ref Sa), a3, a4, some v5, some (.int (((lots7.take j).foldl (fun m lot => m + prodN c lot) (pairsN c) : Nat) : Int)), some (.ref ta), some (.int ((prodN c (lot.take t) : Nat) : Int)), none] ∧ Ex H7 H') (fun H9 e9 => ⟨b3, rfl, e8.trans e9⟩) (fun t σ' H' ⟨_, _, h⟩ => h) ?_ ?_
      · rintro t y σ' H9 hy ⟨d3, rfl, e9⟩
        rw [List.getElem?_map] at hy
        have hy2 : ∃ q, lot[t]? = some q ∧ y = V.int (q : Int) := by
          unfold ofN at hy
          rw [List.getElem?_map] at hy
          cases eq : lot[t]? with
          | none => rw [eq] at hy; cases hy
          | some q =>
            rw [eq] at hy
            cases hy
            exact ⟨q, rfl, rfl⟩
        obtain ⟨q, hq, rfl⟩ := hy2
        have hq6 := lot6 q (List.mem_of_getElem? hq)
        obtain ⟨x, hx⟩ : ∃ x, c[q]? = some x := ⟨c[q]'(by omega), by simp [show q < c.length by omega]⟩
        have hx16 := c16 hx
        refine p_asg1 (P := pI ((prodN c (lot.take (t + 1)) : Nat) : Int)) (ep_iis (ep_op (ep_vi rfl) (ep_ixN (i := q) (x := x) (((e6.trans e7).trans e9) _ _ hC5) (ep_vv rfl) (ep_vi rfl) hx) (rp_I (cmulR ⟨by omega, by omega⟩))) ?_) fun v10 H10 e10 p10 => ?_
        · have e1 : lot.take (t + 1) = lot.take t ++ [q] := by rw [List.take_add_one, hq]; rfl
          have e2 : c.getD q 0 = x := by rw [List.getD_eq_getElem?_getD, hx]; rfl
          unfold prodN
          rw [e1, List.foldl_append]
          show _ = (((lot.take t).foldl (fun w k => w * c.getD k 0) 1 * c.getD q 0 : Nat) : Int)
          rw [e2, Int.natCast_mul]
        · cases p10
          exact ⟨_, rfl, e9.trans e10⟩
      · rintro σ' H9 ⟨d3, rfl, e9⟩
        have lt : (ofN lot).length = lot.length := ofN_len
        rw [List.length_map, lt, List.take_length]
        refine p_asg1 (P := pI (((lots7.take (j + 1)).foldl (fun m lot => m + prodN c lot) (pairsN c) : Nat) : Int)) (ep_iis (ep_op (ep_vi rfl) (ep_vi rfl) rp_I0) ?_) fun v10 H10 e10 p10 => ?_
        · have e1 : lots7.take (j + 1) = lots7.take j ++ [lot] := by rw [List.take_add_one, el]; rfl
          rw [e1, List.foldl_append]
          rfl
        · cases p10
          exact ⟨_, _, _, rfl, (e7.trans e9).trans e10⟩
    · rintro σ' H7 ⟨b3, b7, b8, rfl, e7⟩
      rw [xl]
      have hM : (lots7.take lots7.length).foldl (fun m lot => m + prodN c lot) (pairsN c) = manyOf c := by
        rw [List.take_length]
        rfl
      rw [hM]
      have pw7 := PD.up _ (e6.trans e7) pw5
      have ex7 := (((ex3.trans e4).trans e5).trans e6).trans e7
      have told : ∀ (wh : Int) {H' : Hp} {σ : L2.St} {E : XK}, Ex H7 H' → σ[5]? = some (some v5) → EvP (tCall (spMany K cW) [] E (tCons (tC (.int wh)) (tCons (tVar 5) tNil))) σ H' (pD K (manyD ⟨4, ss', lawRings ss', wh⟩)) := fun wh {H' σ E} e hv =>
        ep_callS (ea_cons ep_i (ea_cons (ep_var hv (PD.up _ e pw7)) ea_nil)) (spp (α := ManyA) ⟨4, ss', lawRings ss', wh⟩ ⟨hb.ok, hL⟩)
      refine q_when (pt_test (ep_op (ep_vi rfl) ep_i rp_I0b)) (fun hb8 H8 e8 => ?_) (fun hb8 H8 e8 => ?_)
      · have h200 := of_decide_eq_true hb8
        have hgt : ¬ (lawRings ss').length ≤ 200 := by rw [hcount]; omega
        have hm : ∀ wh, manyD ⟨4, ss', lawRings ss', wh⟩ = strD "many" 200 := fun wh => by
          unfold manyD
          rw [if_neg hgt]
        refine p_ret (ep_bis (ep_and (ep_op (told 0 e8 rfl) (ep_strD ep_c ep_i) (rp_eqD (shaped_many _) (shaped_str okMany 200))) fun _ => ep_op (told 1 e8 rfl) (ep_strD ep_c ep_i) (rp_eqD (shaped_many _) (shaped_str okMany 200))) ?_) fun v9 H9 e9 p9 => k _ _ ((ex7.trans e8).trans e9) p9
        rw [hm, hm, eqv_strD]
        simp
      · have h200 := of_decide_eq_false hb8
        have hle : (lawRings ss').length ≤ 200 := by rw [hcount]; omega
        have hm0 : manyD ⟨4, ss', lawRings ss', 0⟩ = strD "told" ((manyOf c : Nat) : Int) := by
          unfold manyD
          rw [if_pos hle, if_pos rfl, hcount]
        have hm1 : manyD ⟨4, ss', lawRings ss', 1⟩ = strD "told" 0 := by
          unfold manyD
          rw [if_pos hle, if_neg (show ¬ (1 : Int) = 0 by decide), heven]
          rfl
        refine p_ret (ep_bis (ep_and (ep_op (told 0 e8 rfl) (ep_strD ep_c (ep_vi rfl)) (rp_eqD (shaped_many _) (shaped_str okTold _))) fun _ => ep_op (told 1 e8 rfl) (ep_strD ep_c ep_i) (rp_eqD (shaped_many _) (shaped_str okTold 0))) ?_) fun v9 H9 e9 p9 => k _ _ ((ex7.trans e8).trans e9) p9
        rw [hm0, hm1, eqv_strD, eqv_strD]
        simp
end
end K43
set_option Elab.async false
set_option linter.all false
set_option maxRecDepth 100000
set_option maxHeartbeats 4000000
set_option pp.maxSteps 800
/-! k43, part FQ: the law. -/
namespace K43
open PySem PySem.Spec L2 Evl C8
section
variable {P : Program} {w : World} {K : PySem.W.Frag} {mg : Str → Option Value} {base : Heap} {cE cW cT : Addr} {σ : L2.St} {H : Hp} {te tx tl : TE}
def pHandE : PD := ⟨fun v H => ∃ cs : List Int, (∀ i ∈ cs, 0 ≤ i) ∧ (pHand cs).p v H, fun e ⟨cs, h1, h2⟩ => ⟨cs, h1, PD.up _ e h2⟩⟩
theorem ep_hand {a : Addr} {ns : List Int} {E : XK} {ta : TA} (hl : ns.length ≤ 63) (ha : SqL K H a (ns.map V.int)) (h : EvPA ta σ H [pV (.ref a)]) : EvP (tCall (spHand K) [] E ta) σ H pHandE := fun H1 e Q q => h H1 e _ fun vs H2 e2 ps => by
  obtain ⟨v, _, rfl, pv, er⟩ := ps
  cases er
  cases pv
  exact ⟨a, ns, rfl, ex_l (e.trans e2) ha, hl, fun v H' cs e3 h1 _ h3 => q v H' (e2.trans e3) ⟨cs, h1, h3⟩⟩
/-- [7, 7, 7, 9][draw(4)], then a draw below that -/
theorem ep_draw79 {cs : List Int} {E E' : XK} {t1 : TE} (hcs : ∀ i ∈ cs, 0 ≤ i) (h1 : EvP t1 σ H (pHand cs)) : EvP (tCall spDraw [] E (tCons t1 (tCons (tOp (rIxL K) (tLst (tCons (tC (.int 7)) (tCons (tC (.int 7)) (tCons (tC (.int 7)) (tCons (tC (.int 9)) tNil))))) (tCall spDraw [] E' (tCons t1 (tCons (tC (.int 4)) tNil)))) tNil))) σ H (pDr 9) :=
  ep_callS (Ps := [pHand cs, ⟨fun v _ => ∃ m : Nat, 0 < m ∧ m ≤ 9 ∧ v = .int m, fun _ h => h⟩]) (ea_cons h1 (ea_cons (ep_op (ep_lst (K := K) (Ps := [pI 7, pI 7, pI 7, pI 9]) (ea_cons ep_i (ea_cons ep_i (ea_cons ep_i (ea_cons ep_i ea_nil)))) (by simp)) (ep_draw (m := 4) hcs (by decide) (by decide) (ea_cons h1 (ea_cons ep_i ea_nil))) fun a b H1 e pa pb Q q => by
    obtain ⟨k, hk, rfl⟩ := pb
    have get : ∀ {P : PD}, ([pI 7, pI 7, pI 7, pI 9] : List PD)[k]? = some P → (∀ v H, P.p v H → ∃ m : Nat, 0 < m ∧ m ≤ 9 ∧ v = V.int m) → rIxL K a (.int (k : Nat)) H1 Q := fun {P} hP himp => rp_ixLP (H := H1) hP a _ H1 (Ex.refl _) pa rfl Q fun z H2 e2 pz => q z H2 e2 (himp z H2 pz)
    match k, hk with
    | 0, _ => exact get rfl fun v H p => ⟨7, by decide, by decide, p⟩
    | 1, _ => exact get rfl fun v H p => ⟨7, by decide, by decide, p⟩
    | 2, _ => exact get rfl fun v H p => ⟨7, by decide, by decide, p⟩
    | 3, _ => exact get rfl fun v H p => ⟨9, by decide, by decide, p⟩) ea_nil)) fun vs H1 e1 ps Q E q => by
    obtain ⟨v1, _, rfl, p1, v2, _, rfl, ⟨m, h0, h9, rfl⟩, er⟩ := ps
    cases er
    refine ⟨(cs, m), ⟨hcs, h0, by show m < 1000; omega⟩, ⟨_, _, rfl, p1, _, _, rfl, rfl, rfl⟩, fun v H' e' p' => q v H' e' ?_⟩
    obtain ⟨k, hk, rfl⟩ := p'
    exact ⟨k, Nat.lt_of_lt_of_le hk h9, rfl⟩
/-- some stalls, not many -/
def pFew (K : PySem.W.Frag) (n : Nat) : PD := ⟨fun v H => ∃ ss : List Stl, ss.length ≤ 8 ∧ (∀ s ∈ ss, s.Ok n) ∧ (pD K (.list (ss.map stlD))).p v H, fun e ⟨ss, h1, h2, h3⟩ => ⟨ss, h1, h2, PD.up _ e h3⟩⟩
theorem ep_stalls9 {cs : List Int} {n : Nat} {E : XK} {t1 t2 t3 t4 : TE} {way : Int} (hcs : ∀ i ∈ cs, 0 ≤ i) (hn2 : 2 ≤ n) (hn8 : n ≤ 8) (h1 : EvP t1 σ H (pHand cs)) (h2 : EvP t2 σ H (pI (n : Int))) (h3 : EvP t3 σ H (pDr 9)) (h4 : EvP t4 σ H (pI way)) :
    EvP (tCall (spStalls K) [] E (tCons t1 (tCons t2 (tCons t3 (tCons t4 tNil))))) σ H (pFew K n) :=
  ep_callS (ea_cons h1 (ea_cons h2 (ea_cons h3 (ea_cons h4 ea_nil)))) fun vs H1 e1 ps Q E q => by
    obtain ⟨v1, _, rfl, p1, v2, _, rfl, p2, v3, _, rfl, ⟨m, hm, rfl⟩, v4, _, rfl, p4, er⟩ := ps
    cases er
    refine ⟨⟨cs, n, m, way⟩, ⟨hcs, hn2, hn8, by show m ≤ 16; omega⟩, ⟨_, _, rfl, p1, _, _, rfl, p2, _, _, rfl, rfl, _, _, rfl, p4, rfl⟩, fun v H' e' p' => q v H' e' ?_⟩
    obtain ⟨ss, g1, g2, g3⟩ := p'
    exact ⟨ss, by have g1 : ss.length = m := g1; omega, g2, g3⟩
/-- one stall between these wares -/
def pStlX (K : PySem.W.Frag) (n u v : Nat) : PD := ⟨fun x H => ∃ s : Stl, s.u = u ∧ s.v = v ∧ s.Ok n ∧ (pD K (stlD s)).p x H, fun e ⟨s, h1, h2, h3, h4⟩ => ⟨s, h1, h2, h3, PD.up _ e h4⟩⟩
theorem st_StlX {n u v : Nat} : (pStlX K n u v).St := ⟨fun h ⟨s, h1, h2, h3, h4⟩ => ⟨s, h1, h2, h3, (st_D (noList_stl s)).st h h4⟩⟩
theorem ep_stallX {cs : List Int} {n u v : Nat} {E : XK} {t1 t2 t3 t4 : TE} (hcs : ∀ i ∈ cs, 0 ≤ i) (hu : u < n) (hv : v < n) (hne : u ≠ v) (h1 : EvP t1 σ H (pHand cs)) (h2 : EvP t2 σ H (pI (u : Int))) (h3 : EvP t3 σ H (pI (v : Int))) (h4 : EvP t4 σ H (pSome K 3)) :
    EvP (tCall (spStall K) [] E (tCons t1 (tCons t2 (tCons t3 (tCons t4 tNil))))) σ H (pStlX K n u v) :=
  ep_callS (ea_cons h1 (ea_cons h2 (ea_cons h3 (ea_cons h4 ea_nil)))) fun vs H1 e1 ps Q E q => by
    obtain ⟨v1, _, rfl, p1, v2, _, rfl, p2, v3, _, rfl, p3, v4, _, rfl, ⟨x, hx0, hx3, p4⟩, er⟩ := ps
    cases er
    have hx50 : Sz 50 x := hx3.mono (by decide)
    refine ⟨⟨cs, u, v, x⟩, ⟨hcs, hx0, hx50⟩, ⟨_, _, rfl, p1, _, _, rfl, p2, _, _, rfl, p3, _, _, rfl, p4, rfl⟩, fun y H' e' p' => q y H' e' ?_⟩
    obtain ⟨r, hr0, hr3, dr⟩ := p'
    exact ⟨_, rfl, rfl, stl_ok hu hv hne hr0 hr3 hx0 hx50, dr⟩
theorem ep_stallXN {cs : List Int} {n u : Nat} {E : XK} {t1 t2 t3 t4 : TE} (hcs : ∀ i ∈ cs, 0 ≤ i) (hu : u < n) (h1 : EvP t1 σ H (pHand cs)) (h2 : EvP t2 σ H (pI (u : Int))) (h3 : EvP t3 σ H (pNe n u)) (h4 : EvP t4 σ H (pSome K 3)) :
    EvP (tCall (spStall K) [] E (tCons t1 (tCons t2 (tCons t3 (tCons t4 tNil))))) σ H ⟨fun x H => ∃ s : Stl, s.Ok n ∧ (pD K (stlD s)).p x H, fun e ⟨s, h3, h4⟩ => ⟨s, h3, PD.up _ e h4⟩⟩ :=
  ep_callS (ea_cons h1 (ea_cons h2 (ea_cons h3 (ea_cons h4 ea_nil)))) fun vs H1 e1 ps Q E q => by
    obtain ⟨v1, _, rfl, p1, v2, _, rfl, p2, v3, _, rfl, ⟨v, hv, hvu, rfl⟩, v4, _, rfl, ⟨x, hx0, hx3, p4⟩, er⟩ := ps
    cases er
    have hx50 : Sz 50 x := hx3.mono (by decide)
    refine ⟨⟨cs, u, v, x⟩, ⟨hcs, hx0, hx50⟩, ⟨_, _, rfl, p1, _, _, rfl, p2, _, _, rfl, rfl, _, _, rfl, p4, rfl⟩, fun y H' e' p' => q y H' e' ?_⟩
    obtain ⟨r, hr0, hr3, dr⟩ := p'
    exact ⟨_, stl_ok hu hv (fun z => hvu z.symm) hr0 hr3 hx0 hx50, dr⟩
theorem stlX_D {n : Nat} {f : Nat → Nat} {H : Hp} : ∀ {l : List Nat} {xs : List V}, Alls (l.map fun i => pStlX K n i (f i)) xs H → ∃ ss : List Stl, ss.length = l.length ∧ (∀ s ∈ ss, s.Ok n) ∧ (∀ (k i : Nat), l[k]? = some i → ∃ s : Stl, ss[k]? = some s ∧ s.u = i ∧ s.v = f i) ∧ DpAll K H xs (ss.map stlD)
  | [], xs, h => by cases h; exact ⟨[], rfl, by simp, by simp, .nil⟩
  | i :: l, xs, ⟨x, r, e, ⟨s, h1, h2, h3, h4⟩, t⟩ => by
    subst e
    obtain ⟨ss, g1, g2, g3, g4⟩ := stlX_D t
    refine ⟨s :: ss, by simp [g1], fun s' hs => ?_, fun k j hk => ?_, .cons h4 g4⟩
    · rcases List.mem_cons.mp hs with rfl | hs
      · exact h3
      · exact g2 s' hs
    · cases k with
      | zero =>
        cases hk
        exact ⟨s, rfl, h1, h2⟩
      | succ k => exact g3 k j (by simpa using hk)
theorem ep_repr {L : List Way} (h : EvP te σ H (pD K (.list (L.map wayD)))) (h1 : ∀ r ∈ L, ∀ p ∈ r, p.1 < 100 ∧ p.2 < 100) (h2 : (PyData.shown (.list (L.map wayD))).length ≤ sizeLine) : EvP (tCB (rReprW K) (tCons te tNil)) σ H (pV (.str (PyData.shown (.list (L.map wayD))))) := fun H1 e Q q => h H1 e _ fun v H2 e2 p => by
  obtain ⟨a, xs, rfl, ha, dx⟩ := Dp.lst_inv p
  exact ⟨a, xs, L, rfl, ha, dx, h1, h2, q _ H2 e2 rfl⟩
theorem rp_neS {x y : Str} : RP rNe (pV (.str x)) (pV (.str y)) H (pB (!decide (x = y))) := fun a b H1 _ p p' Q q => by
  obtain rfl : a = .str x := p
  obtain rfl : b = .str y := p'
  refine ⟨rfl, ?_⟩
  have e : decide (V.str x = V.str y) = decide (x = y) := by simp
  rw [e]
  exact q _ H1 (Ex.refl H1) rfl
theorem rp_neB {x y : Bool} : RP rNe (pB x) (pB y) H (pB (!decide (x = y))) := fun a b H1 _ p p' Q q => by
  obtain rfl : a = .bl x := p
  obtain rfl : b = .bl y := p'
  refine ⟨rfl, ?_⟩
  have e : decide (V.bl x = V.bl y) = decide (x = y) := by simp
  rw [e]
  exact q _ H1 (Ex.refl H1) rfl
theorem et_is {t : TT} {a b : Bool} (h : EvT t σ H a) (e : a = b) : EvT t σ H b := e ▸ h
theorem ways_pL {L : List Way} {v : V} (h : (pD K (.list (L.map wayD))).p v H) : (pL K (L.map fun r => pD K (wayD r))).p v H := by
  have := pD_pL h
  rw [List.map_map] at this
  exact this
theorem pL_ways {L : List Way} {v : V} (h : (pL K (L.map fun r => pD K (wayD r))).p v H) : (pD K (.list (L.map wayD))).p v H := by
  obtain ⟨a, xs, rfl, h1, h2⟩ := h
  refine .lst h1 (pT_pD ?_)
  rw [List.map_map]
  exact h2
theorem next_ne {n i : Nat} (hn : 2 ≤ n) (hi : i < n) : i ≠ (i + 1) % n := by
  by_cases h : i + 1 < n
  · rw [Nat.mod_eq_of_lt h]; omega
  · have : i + 1 = n := by omega
    rw [this, Nat.mod_self]
    omega
/-- the stalls of the chord -/
theorem main_chord {n : Nat} (h6 : 6 ≤ n) (h8 : n ≤ 8) {ss1 ss' : List Stl} {s9 : Stl} (l1 : ss1.length = n) (ok1 : ∀ s ∈ ss1, s.Ok n) (at1 : ∀ (k i : Nat), (List.range n)[k]? = some i → ∃ s : Stl, ss1[k]? = some s ∧ s.u = i ∧ s.v = (i + 1) % n) (ok9 : s9.Ok n) (hp : ss'.Perm (ss1 ++ [s9])) : MainOk n ss' where
  ok := ⟨by omega, h8, by rw [hp.length_eq, List.length_append, l1, List.length_singleton]; omega, fun s hs => by
    rcases List.mem_append.mp (hp.mem_iff.mp hs) with q | q
    · exact ok1 s q
    · rw [List.mem_singleton.mp q]; exact ok9⟩
  l9 := by rw [hp.length_eq, List.length_append, l1, List.length_singleton]; omega
  few := by
    have r : ∀ k, k < n → (List.range n)[k]? = some k := fun k hk => by rw [List.getElem?_range hk]
    obtain ⟨s1, h1, u1, w1⟩ := at1 0 0 (r 0 (by omega))
    obtain ⟨s2, h2, u2, w2⟩ := at1 2 2 (r 2 (by omega))
    rw [Nat.mod_eq_of_lt (by omega)] at w2
    refine .inr ⟨s1, hp.mem_iff.mpr (List.mem_append_left _ (List.mem_of_getElem? h1)), s2, hp.mem_iff.mpr (List.mem_append_left _ (List.mem_of_getElem? h2)), 0, 2, .inl u1, .inl u2, fun z => ?_⟩
    rcases z with z | z
    · rw [u2] at z; cases z
    · rw [w2] at z; cases z
theorem ring_small {n : Nat} {ss : List Stl} (hok : WOk n ss) {r : Way} (h : IsRing ss r) : r.length ≤ 8 ∧ ∀ p ∈ r, p.1 < 100 ∧ p.2 < 100 := by
  refine ⟨h.len hok, fun p hp => ?_⟩
  obtain ⟨a, hw, _⟩ := h
  obtain ⟨h1, h2⟩ := hw.touch hok hp
  have := hok.len
  have := hok.n8
  exact ⟨by omega, by omega⟩
theorem ep_fitS {n : Nat} {ss : List Stl} {L : List Way} {E : XK} {ta : TA} (hok : WOk n ss) (hL : RingsOf ss L) (h : EvPA ta σ H [pW K cW n ss]) : EvP (tIsN (tCall (spFit K cW) [] E ta)) σ H (pB (decide ((0 : Int) < (((L.filter (uneven ss)).map wayD).length : Nat)))) :=
  ep_isN (P := pFit n ss) (ep_callS h (spp (α := Nat × List Stl) (n, ss) hok)) fun v H' p => by
    obtain ⟨rt, sc, tr, hor⟩ := p
    have hiff := fit_iff hok tr hL
    rw [List.length_map, decide_eq_true_iff]
    have hpos : ((0 : Int) < ((L.filter (uneven ss)).length : Nat)) ↔ ∃ r ∈ L, uneven ss r = true := by
      refine Iff.intro (fun z => ?_) ?_
      · have z' : 0 < (L.filter (uneven ss)).length := by omega
        obtain ⟨r, hr⟩ := List.exists_mem_of_length_pos z'
        exact ⟨r, (List.mem_filter.mp hr).1, (List.mem_filter.mp hr).2⟩
      · rintro ⟨r, h1, h2⟩
        have z' := List.length_pos_of_mem (List.mem_filter.mpr ⟨h1, h2⟩)
        omega
    rw [hpos, hiff]
    rcases hor with ⟨hb, rfl⟩ | ⟨hb, a, rfl⟩
    · exact Iff.intro (fun _ => hb) fun _ => rfl
    · exact Iff.intro (fun z => nomatch z) fun z => absurd hb z
variable {D : Ends} {tz : TS}
theorem p_clear {l : Addr} {xs : List V} (hl : H l = some (.lst xs)) (ht : EvP te σ H (pV (.ref l))) (k : ∀ H1, Ex H H1 → tz D σ (upd H1 l (.lst []))) : tSeq (tDrop (tBM0 K "list" rClear te)) tz D σ H := ht H (Ex.refl H) _ fun v H1 e1 p => by
  obtain rfl : v = V.ref l := p
  exact ⟨Or.inl ⟨rfl, _, sq_of (e1 _ _ hl)⟩, l, xs, rfl, rfl, e1 _ _ hl, k H1 e1⟩
def spLaw (K : PySem.W.Frag) : Sp := fun vs H Q _ => ∃ (a : Addr) (ns : List Int), vs = [.ref a] ∧ SqL K H a (ns.map V.int) ∧ ns.length ≤ 63 ∧ ∀ H', Q (.bl true) H'
def Nlaw : List Str := ["_law_script", "_law_hand_here", "_law_way", "_law_wares", "_law_stalls_here", "_law_one", "_law_web", "_law_due", "_law_uneven", "_law_told", "_law_k", "_law_ring"]
theorem scLaw : FnScope Nlaw ["_law_script"] (defScope (top 63)) := ⟨rfl, rfl, rfl, by decide +kernel, rfl, by decide +kernel, by decide +kernel⟩
open PyProof.Rows in
theorem law_body (T : Txt K mg cE cW) (TT : TxtT K mg cT) (cdv : Value) (f : Addr) (A : Around) (outer : List Env) (s : Shared) (H : Hp) (vs : List V) (Q : VK) (E : XK) (hg : A.guards = some []) (hr : Room 10 (A.deeper (envOfC "law" (defScope (top 63)) s.heap.objs.size f cdv))) (h : spLaw K vs H Q E) :
    ∃ t, PSs (cxOf L2.CX0 P w K mg base Nlaw "law" (defScope (top 63)) f cdv A outer s H E).nox (defBody (top 63)) t ∧ t { nx := fun _ H' => Q .non H', rt := Q } (start Nlaw vs) H := by
  obtain ⟨a, ns, rfl, ha, hl, k⟩ := h
  have sc0 := scLaw
  obtain ⟨fR, fdR, psR, FR, mR, kR, bR⟩ := (ok39 (P := P) (w := w) (base := base) T TT).ex
  obtain ⟨fU, fdU, psU, FU, mU, kU, bU⟩ := (ok40 (P := P) (w := w) (base := base) T TT).ex
  refine ⟨_, pss_cons (ps_set (i := 1) sc0.nd rfl (.inr rfl) (pe_c (ok42 T) hr (by decide) rfl (pa_cons (pv 0) (pa_nil))))
    (pss_cons (ps_set (i := 2) sc0.nd rfl (.inl rfl) (pe_c (ok43 T) hr (by decide) rfl (pa_cons (pv 1) (pa_cons (pe_int) (pa_nil)))))
    (pss_cons (ps_set (i := 3) sc0.nd rfl (.inr rfl) (pe_op op_add (pe_int) (pe_c (ok43 T) hr (by decide) rfl (pa_cons (pv 1) (pa_cons (pe_int) (pa_nil))))))
    (pss_cons (ps_set (i := 4) sc0.nd rfl (.inr rfl) (pe_c (ok53 T) hr (by decide) rfl (pa_cons (pv 1) (pa_cons (pv 3) (pa_cons (pe_c (ok43 T) hr (by decide) rfl (pa_cons (pv 1) (pa_cons (pe_ix ix_list (pe_lst (pa_cons (pe_int) (pa_cons (pe_int) (pa_cons (pe_int) (pa_cons (pe_int) (pa_nil)))))) (pe_c (ok43 T) hr (by decide) rfl (pa_cons (pv 1) (pa_cons (pe_int) (pa_nil)))) (fun _ _ => rfl)) (pa_nil)))) (pa_cons (pv 2) (pa_nil)))))))
    (Evl.pss_cut (ps_if (pt_cmpR op_eq (pe_c (ok43 T) hr (by decide) rfl (pa_cons (pv 1) (pa_cons (pe_int) (pa_nil)))) (pe_int) (nomark _)) (pss_cons (ps_set (i := 3) sc0.nd rfl (.inr rfl) (pe_op op_add (pe_int) (pe_c (ok43 T) hr (by decide) rfl (pa_cons (pv 1) (pa_cons (pe_int) (pa_nil))))))
    (pss_cons (ps_set (i := 5) sc0.nd rfl (.inl rfl) (pe_c (ok43 T) hr (by decide) rfl (pa_cons (pv 1) (pa_cons (pv 3) (pa_nil)))))
    (pss_cons (ps_set (i := 4) sc0.nd rfl (.inr rfl) (pe_lc (own := [("_law_k", 10)]) (g := gName 10) (by rfl) sc0.nd (pi_range1 rfl T.b_range (pa_cons (pv 3) (pa_nil))) (blkOk_by (N := Nlaw) (sc := defScope (top 63)) (by decide +kernel)) (fun _ _ _ _ _ => pg_name (i := 10) sc0.nd rfl (.inl rfl)) (fun _ _ _ _ _ => pts_nil) (fun _ _ _ _ _ => pe_c (ok52 T) hr (by decide) rfl (pa_cons (pv 1) (pa_cons (pv 10) (pa_cons (pe_op op_mod (pe_callTy call_int1 (by rfl) T.b_int (by decide +kernel) (pa_cons (pe_op op_add (pv 10) (pe_int)) (pa_nil))) (pv 3)) (pa_cons (pe_c (ok50 T) hr (by decide) rfl (pa_cons (pv 1) (pa_nil))) (pa_nil))))))))
    (pss_cons (ps_expr (pe_bm PySem.F.plainAttrs_list PySem.F.slot_list_append PySem.F.type_list_append mt_append (pv 4) (pa_cons (pe_c (ok52 T) hr (by decide) rfl (pa_cons (pv 1) (pa_cons (pv 5) (pa_cons (pe_op op_mod (pe_callTy call_int1 (by rfl) T.b_int (by decide +kernel) (pa_cons (pe_op op_add (pe_op op_add (pv 5) (pe_int)) (pe_c (ok43 T) hr (by decide) rfl (pa_cons (pv 1) (pa_cons (pe_op op_sub (pv 3) (pe_int)) (pa_nil))))) (pa_nil))) (pv 3)) (pa_cons (pe_c (ok50 T) hr (by decide) rfl (pa_cons (pv 1) (pa_nil))) (pa_nil)))))) (pa_nil))))
    (pss_one (ps_set (i := 4) sc0.nd rfl (.inr rfl) (pe_c (ok51 T) hr (by decide) rfl (pa_cons (pv 1) (pa_cons (pv 4) (pa_nil)))))))))) (pss_nil))
    (pss_cons (ps_set (i := 6) sc0.nd rfl (.inr rfl) (pe_mk (okInitW T) hr (by decide) rfl (pa_cons (pv 3) (pa_cons (pv 4) (pa_nil)))))
    (pss_cons (ps_set (i := 7) sc0.nd rfl (.inl rfl) (pe_c (ok60 T) hr (by decide) rfl (pa_cons (pv 4) (pa_nil))))
    (pss_cons (ps_setLc (i := 8) (own := [("_law_ring", 11)]) (g := gName 11) (tt := _) (by rfl) sc0.nd rfl rfl (sw_true rfl rfl rfl (by decide +kernel)) (pi_list (pv 7)) (blkOk_by (N := ["_law_script", "_law_hand_here", "_law_way", "_law_wares", "_law_stalls_here", "_law_one", "_law_web", "_law_due", "_law_uneven", "_law_told", "_law_k", "_law_ring"]) (sc := defScope (top 63)) (by decide +kernel)) (fun _ _ _ _ _ => pg_name (i := 11) sc0.nd rfl (.inl rfl)) (fun _ _ _ _ _ => pts_one (pt_val (pe_c (ok56 T) hr (by decide) rfl (pa_cons (pv 4) (pa_cons (pv 11) (pa_nil)))))) (fun _ _ _ _ _ => pv 11))
    (pss_cons (ps_set (i := 9) sc0.nd rfl (.inl rfl) (pe_callS FR (hr.mono (by decide)) rfl mR kR bR (fun σ => passAt takes0 σ) (pa_cons (pv 6) pa_nil)))
    (pss_cons (ps_if (PW.pt (pw_or (pt_cmpR op_ne (pe_callB (cr_reprW hg (Nat.lt_of_le_of_lt (Nat.add_le_add_left (by decide : 8 ≤ 64) _) hr.units)) (by rfl) T.b_repr (by decide +kernel) (pa_cons (pv 9) (pa_nil))) (pe_callB (cr_reprW hg (Nat.lt_of_le_of_lt (Nat.add_le_add_left (by decide : 8 ≤ 64) _) hr.units)) (by rfl) T.b_repr (by decide +kernel) (pa_cons (pv 7) (pa_nil))) (nomark _)) (pw_or1 (pt_cmpR op_ne (pe_callB (cr_reprW hg (Nat.lt_of_le_of_lt (Nat.add_le_add_left (by decide : 8 ≤ 64) _) hr.units)) (by rfl) T.b_repr (by decide +kernel) (pa_cons (pe_callS FU (hr.mono (by decide)) rfl mU kU bU (fun σ => passAt takes0 σ) (pa_cons (pv 6) pa_nil)) (pa_nil))) (pe_callB (cr_reprW hg (Nat.lt_of_le_of_lt (Nat.add_le_add_left (by decide : 8 ≤ 64) _) hr.units)) (by rfl) T.b_repr (by decide +kernel) (pa_cons (pv 8) (pa_nil))) (nomark _))))) (pss_one (ps_ret (pe_bl))) (pss_nil))
    (pss_cons (ps_if (PW.pt (pw_or (pt_cmpR op_ne (pe_cmp (pc_isN (pe_c (ok31 T) hr (by decide) rfl (pa_cons (pv 6) (pa_nil))))) (pe_cmpR op_gt (pe_callB (call_len_seq) (by rfl) T.b_len (by decide +kernel) (pa_cons (pv 8) (pa_nil))) (pe_int) (nomark _)) (nomark _)) (pw_or1 (pt_not (pt_val (pe_callB (cr_all rfl) (by rfl) T.b_all (by decide +kernel) (pa_cons (pe_lc (own := [("_law_ring", 11)]) (g := gName 11) (by rfl) sc0.nd (pi_list (pv 8)) (blkOk_by (N := Nlaw) (sc := defScope (top 63)) (by decide +kernel)) (fun _ _ _ _ _ => pg_name (i := 11) sc0.nd rfl (.inl rfl)) (fun _ _ _ _ _ => pts_nil) (fun _ _ _ _ _ => pe_c (ok33 T) hr (by decide) rfl (pa_cons (pv 6) (pa_cons (pv 11) (pa_nil))))) (pa_nil)))))))) (pss_one (ps_ret (pe_bl))) (pss_nil))
    (pss_cons (ps_expr (pe_bm0 PySem.F.plainAttrs_list PySem.F.slot_list_clear PySem.F.type_list_clear mt_clear (pv 9)))
    (pss_one (ps_ret (pe_and (pe_cmpR (op_eqD hr.units) (pe_callS FR (hr.mono (by decide)) rfl mR kR bR (fun σ => passAt takes0 σ) (pa_cons (pv 6) pa_nil)) (pv 7) (nomark _)) (pe_one (pe_c (ok62 T TT) hr (by decide) rfl (pa_cons (pv 1) (pa_nil)))))))))))))))))), ?_⟩
  refine p_asg (P := pHandE) (ep_hand hl ha (ea_cons (ep_vv rfl) ea_nil)) fun v1 H1 e1 p1 => ?_
  obtain ⟨cs, hcs, ph⟩ := p1
  refine p_asg (P := pDr 3) (ep_draw (m := 3) hcs (by decide) (by decide) (ea_cons (ep_var rfl ph) (ea_cons ep_i ea_nil))) fun v2 H2 e2 p2 => ?_
  obtain ⟨way, hway, rfl⟩ := p2
  have ph2 := PD.up _ e2 ph
  refine p_asg (P := pSh 2 4) (ep_op ep_i (ep_draw (m := 4) hcs (by decide) (by decide) (ea_cons (ep_var rfl ph2) (ea_cons ep_i ea_nil))) rp_sh) fun v3 H3 e3 p3 => ?_
  obtain ⟨kw, hkw, rfl⟩ := p3
  have ph3 := PD.up _ e3 ph2
  have en : (2 : Int) + (kw : Int) = ((2 + kw : Nat) : Int) := by omega
  rw [en]
  refine p_asg (P := pFew K (2 + kw)) (ep_stalls9 hcs (by omega) (by omega) (ep_var rfl ph3) (ep_vi rfl) (ep_draw79 hcs (ep_var rfl ph3)) (ep_vi rfl)) fun v4 H4 e4 p4 => ?_
  obtain ⟨ss0, g8, gok, pss⟩ := p4
  have ph4 := PD.up _ e4 ph3
  refine Evl.q_cut (M := fun σ' H' => ∃ (n : Nat) (ss : List Stl) (u4 : V) (a5 : Option V), MainOk n ss ∧ (pD K (.list (ss.map stlD))).p u4 H' ∧ Ex H4 H' ∧ σ' = [some (.ref a), some v1, some (.int (way : Nat)), some (.int (n : Nat)), some u4, a5, none, none, none, none, none, none]) ?_ ?_
  · refine s_whenE (ep_op (ep_draw (m := 12) hcs (by decide) (by decide) (ea_cons (ep_var rfl ph4) (ea_cons ep_i ea_nil))) ep_i rp_eqDr) (fun H5 e5 => ?_) (fun H5 e5 => ⟨2 + kw, ss0, v4, none, ⟨⟨by omega, by omega, by omega, gok⟩, by omega, .inl g8⟩, PD.up _ e5 pss, e5, rfl⟩)
    have ph5 := PD.up _ e5 ph4
    refine p_asg (P := pSh 6 3) (ep_op ep_i (ep_draw (m := 3) hcs (by decide) (by decide) (ea_cons (ep_var rfl ph5) (ea_cons ep_i ea_nil))) rp_sh) fun v6 H6 e6 p6 => ?_
    obtain ⟨k6, hk6, rfl⟩ := p6
    have ph6 := PD.up _ e6 ph5
    have en6 : (6 : Int) + (k6 : Int) = ((6 + k6 : Nat) : Int) := by omega
    rw [en6]
    obtain ⟨n, hn6, hn8, hn⟩ : ∃ n, 6 ≤ n ∧ n ≤ 8 ∧ 6 + k6 = n := ⟨_, by omega, by omega, rfl⟩
    rw [hn]
    refine p_asg (P := pDr n) (ep_draw (m := n) hcs (by omega) (by omega) (ea_cons (ep_var rfl ph6) (ea_cons (ep_vi rfl) ea_nil))) fun v7 H7 e7 p7 => ?_
    obtain ⟨one, hone, rfl⟩ := p7
    have ph7 := PD.up _ e7 ph6
    refine p_asg (P := pLN H7 ((List.range n).map fun i => pStlX K n i ((i + 1) % n))) (ep_lcRaN (ea_cons (ep_vi rfl) ea_nil) (by omega) (fun _ => rfl) (fun i hi H8 e8 => ep_stallX hcs hi (Nat.mod_lt _ (by omega)) (next_ne (by omega) hi) (ep_var rfl (PD.up _ e8 ph7)) (ep_vi rfl) (ep_iis (ep_op (ep_cb (ea_cons (ep_op (ep_vi rfl) ep_i rp_I0) ea_nil) cp_int) (ep_vi rfl) (rp_I (show (0 : Int) < (n : Int) by omega))) (by rw [Int.natCast_emod, Int.natCast_succ])) (ep_some hcs (ea_cons (ep_var rfl (PD.up _ e8 ph7)) ea_nil))) (fun i hi => st_StlX)) fun v8 H8 e8 p8 => ?_
    obtain ⟨L8, xs, rfl, nL8, hL8, aL8⟩ := p8
    obtain ⟨ss1, l1, ok1, at1, d1⟩ := stlX_D (f := fun i => (i + 1) % n) aL8
    rw [List.length_range] at l1
    have lx := DpAll.len d1
    rw [List.length_map, l1] at lx
    have ph8 := PD.up _ e8 ph7
    refine p_app (P := ⟨fun x H => ∃ s : Stl, s.Ok n ∧ (pD K (stlD s)).p x H, fun e ⟨s, h3, h4⟩ => ⟨s, h3, PD.up _ e h4⟩⟩) hL8 (ep_vv rfl) (ep_stallXN hcs hone (ep_var rfl ph8) (ep_vi rfl) (ep_other hcs (by omega) hn8 hone (ep_vi rfl) (ep_var rfl ph8) (ep_vi rfl)) (ep_some hcs (ea_cons (ep_var rfl ph8) ea_nil))) (by omega) fun v9 H9 e9 p9 => ?_
    obtain ⟨s9, ok9, d9⟩ := p9
    have hL9 := e9 _ _ hL8
    have dS : DpAll K (upd H9 L8 (.lst (xs ++ [v9]))) (xs ++ [v9]) ((ss1 ++ [s9]).map stlD) := DpAll.lst hL9 (noList_stls _) (by
      rw [List.map_append]
      exact DpAll.snoc (DpAll.up e9 d1) d9)
    have ex9 : Ex H7 (upd H9 L8 (.lst (xs ++ [v9]))) := Ex.mut (e8.trans e9) nL8
    refine p_asg1 (P := pShuf K (ss1 ++ [s9])) (ep_shuf hcs (by rw [List.length_append, l1, List.length_singleton]; omega) (ea_cons (ep_var rfl (PD.up _ ex9 ph7)) (ea_cons (ep_var rfl (show (pD K (.list ((ss1 ++ [s9]).map stlD))).p (.ref L8) _ from .lst (SqL.of upd_same) dS)) ea_nil))) fun v10 H10 e10 p10 => ?_
    obtain ⟨ss', hp, d10⟩ := p10
    exact ⟨n, ss', v10, _, main_chord hn6 hn8 l1 ok1 at1 ok9 hp, d10, ((e5.trans e6).trans (e7.trans ex9)).trans e10, rfl⟩
  · rintro σ' H5 ⟨n, ss, u4, a5, hM, pS, e5, rfl⟩
    have hok := hM.ok
    have hL := rings_law hok.nes
    have hfew := main_few hM hL
    have isR : ∀ r ∈ lawRings ss, IsRing ss r := fun r hr' => by
      obtain ⟨r0, h0, rfl⟩ := (hL.mem r).mp hr'
      exact least_ring hok.nes h0
    have small : ∀ r ∈ lawRings ss, r.length ≤ 8 ∧ ∀ p ∈ r, p.1 < 100 ∧ p.2 < 100 := fun r hr' => ring_small hok (isR r hr')
    have smallF : ∀ r ∈ (lawRings ss).filter (uneven ss), r.length ≤ 8 ∧ ∀ p ∈ r, p.1 < 100 ∧ p.2 < 100 := fun r hr' => small r (List.mem_filter.mp hr').1
    have sh1 := shown_short hfew small
    have fewF : ((lawRings ss).filter (uneven ss)).length ≤ 200 := Nat.le_trans (List.length_filter_le ..) hfew
    have sh2 := shown_short fewF smallF
    have ph5 := PD.up _ e5 ph4
    refine p_asg (P := pW K cW n ss) (ep_mkW hok (ea_cons (ep_vi rfl) (ea_cons (ep_var rfl pS) ea_nil))) fun v6 H6 e6 pw => ?_
    have pS6 := PD.up _ e6 pS
    refine p_asg (P := pD K (.list ((lawRings ss).map wayD))) (ep_callS (ea_cons (ep_var rfl pS6) ea_nil) (spp (α := List Stl) ss ⟨hok.nes, hM.l9⟩)) fun v7 H7 e7 pD7 => ?_
    refine p_asg (P := pL K (((lawRings ss).filter (uneven ss)).map fun r => pD K (wayD r))) (ep_lcL (src := fun r => pD K (wayD r)) (ep_var rfl (ways_pL pD7)) (by omega) (fun _ => rfl) (fun b hb x H8 e8 px => pt_B (ep_callS (ea_cons (ep_var rfl (PD.up _ (e7.trans e8) pS6)) (ea_cons (ep_var rfl px) ea_nil)) (spp (α := (Nat × List Stl) × Way) ((n, ss), b) ⟨hok, isR b hb⟩))) (fun b hb _ x H8 e8 px => ep_var rfl px) (fun b hb _ => st_D (noList_way _))) fun v8 H8 e8 p8 => ?_
    have pU8 : (pD K (.list (((lawRings ss).filter (uneven ss)).map wayD))).p v8 H8 := pL_ways p8
    have pw8 := PD.up _ (e7.trans e8) pw
    have pD8 := PD.up _ e8 pD7
    refine p_asg (P := pWL K H8 (lawRings ss)) (ep_ringsS hok hL hfew (ea_cons (ep_var rfl pw8) ea_nil)) fun v9 H9 e9 p9 => ?_
    have pw9 := PD.up _ e9 pw8
    have pD9 := PD.up _ e9 pD8
    have pU9 := PD.up _ e9 pU8
    refine p_pass (et_is (et_or (pt_test (ep_op (ep_repr (ep_var rfl (pWL_D p9)) (fun r hr' => (small r hr').2) sh1) (ep_repr (ep_var rfl pD9) (fun r hr' => (small r hr').2) sh1) rp_neS)) fun _ => pt_test (ep_op (ep_repr (ep_unevensS hok hL hfew (ea_cons (ep_var rfl pw9) ea_nil)) (fun r hr' => (smallF r hr').2) sh2) (ep_repr (ep_var rfl pU9) (fun r hr' => (smallF r hr').2) sh2) rp_neS)) (by simp)) fun H10 e10 => ?_
    have pw10 := PD.up _ e10 pw9
    have pU10 := PD.up _ e10 pU9
    have hallT : ((((lawRings ss).filter (uneven ss)).map (uneven ss)).all id) = true := by
      rw [List.all_eq_true]
      intro b hb
      obtain ⟨r, hr', rfl⟩ := List.mem_map.mp hb
      exact (List.mem_filter.mp hr').2
    refine p_pass (et_is (et_or (pt_test (ep_op (ep_fitS hok hL (ea_cons (ep_var rfl pw10) ea_nil)) (ep_op (ep_lenR (ep_var rfl pU10)) ep_i rp_I0b) rp_neB)) fun _ => et_not (pt_B (ep_cb (ea_cons ((ep_lcLa (src := fun r => pD K (wayD r)) (res := fun r => pB (uneven ss r)) (ep_var rfl (ways_pL pU10)) (by omega) (fun _ => rfl) (fun b hb x H11 e11 px => ep_callS (ea_cons (ep_var rfl (PD.up _ e11 pw10)) (ea_cons (ep_var rfl px) ea_nil)) (spp (α := (Nat × List Stl) × Way) ((n, ss), b) ⟨hok, isR b (List.mem_filter.mp hb).1⟩)) (fun b hb => st_B)).imp fun v' H' _ p' => ?g1) ea_nil) (cp_all (bs := ((lawRings ss).filter (uneven ss)).map (uneven ss)))))) (by rw [hallT]; simp)) fun H11 e11 => ?_
    case g1 =>
      rw [List.map_map]
      exact p'
    obtain ⟨La, xs, rfl, nLa, hLa, dLa⟩ := p9
    refine p_clear ((e10.trans e11) _ _ hLa) (ep_vv rfl) fun H12 e12 => ?_
    have ex12 : Ex H8 (upd H12 La (.lst [])) := Ex.mut (((e9.trans e10).trans e11).trans e12) nLa
    have ph12 := PD.up _ (((e6.trans e7).trans e8).trans ex12) ph5
    have hq := SeqAt.eqv_refl (.list ((lawRings ss).map wayD)) (SeqAt.canLay_of_shaped (shaped_ways _))
    refine p_ret (ep_bis (ep_and (ep_op ((ep_ringsS hok hL hfew (ea_cons (ep_var rfl (PD.up _ ex12 pw8)) ea_nil)).imp fun _ _ _ p => pWL_D p) (ep_var rfl (PD.up _ ex12 pD8)) (rp_eqD (shaped_ways _) (shaped_ways _))) fun _ => ep_callS (ea_cons (ep_var rfl ph12) ea_nil) (spp (α := List Int) cs hcs)) (by rw [hq])) fun v13 H13 e13 p13 => ?_
    obtain rfl : v13 = .bl true := p13
    exact k _
end
end K43
set_option Elab.async false
set_option linter.all false
set_option maxRecDepth 100000
set_option maxHeartbeats 4000000
/-! k43, part FR: the law is called by the caller of claims (whose guards are known, as repr wants it). -/
namespace K43
open PySem PySem.Spec L2 Evl C8 PyProof.Rows
variable {P : Program} {w : World} {K : PySem.W.Frag} {mg mb : Str → Option Value} {cE cW cT : Addr}
/-- the law's def, entered by a caller without guards -/
theorem law_run (T : Txt K mg cE cW) (TT : TxtT K mg cT) {fa : Addr} {fd : FuncData} (F : L2.Fun K "law" "law" (top 63) fa fd) {base : Heap} {s : Shared} {H : Hp} {a : Addr} {ns : List Int} (e0 : Env0 P w K mg base callerA [] s H) (hb : BindsTo s fd ⟨[.ref a], []⟩ [("_law_script", .ref a)])
    (hl : ns.length ≤ 63) (ha : SqL K H a (ns.map V.int)) : codeAny (model P w) callerA (.call (.ref fa) ⟨[.ref a], []⟩) (CR L2.CX0 [] P w H s (fun v _ => v = .bl true) fun _ _ _ => False) s := by
  obtain ⟨oc, od, kV, doc, pm, an, cdv, ct, osl, rfl, lk, hcd⟩ := F.ex
  have S := scLaw
  have room : Room 11 callerA := ⟨rfl, by decide, by decide⟩
  have KX : K.In s.heap := e0.mod.kin.keeps fun b o e => (e0.bs b o e).1
  have lim : s.heap.NoLimit := e0.mod.nolimit.keeps fun b o e => (e0.bs b o e).1
  have kinds : ∀ y ∈ [(("_law_script" : Str), Value.ref a)], (defScope (top 63)).names.lookup y.1 = some .local ∨ ((defScope (top 63)).names.lookup y.1 = some .cell ∧ ((cellsFrom (s.heap.objs.size + 1) (defScope (top 63)).names []).lookup y.1).isSome = true) := fun y hy => by
    rw [List.mem_singleton.mp hy]
    rcases S.par ("_law_script" : Str) (List.mem_singleton.mpr rfl) with q | q
    · exact .inl q
    · exact .inr ⟨q, PySem.W.cellsFrom_some _ _ _ (.inl q)⟩
  refine codeAny_call_function room.depth (KX _ _ lk) rfl S.co S.gen rfl (PySem.W.codeRec_of KX hcd) (hb _ _ _ _ (wpAny_newFunctionEnv_cells S.kind kinds fun env he s1 x => ?_))
  cases he
  refine ⟨lim.keeps x.toInCall.keep, codeAny_func ?_⟩
  obtain ⟨t, ht, hq⟩ := law_body (P := P) (w := w) (base := base) T TT cdv fa callerA [] s H [.ref a] (fun v _ => v = .bl true) (fun _ _ _ => False) rfl (room.deeper _) ⟨a, ns, rfl, ha, hl, fun _ => rfl⟩
  have I := inv_start (CX := L2.CX0) (E := fun _ _ _ => False) (vs := [V.ref a]) S room.hd e0 rfl (show Vals [V.ref a] [Value.ref a] from .cons rfl .nil) x
  refine wpAny_mono (ht.nox.run [] s1 (start Nlaw [.ref a]) H _ I hq) (fun fl s' hs => ?_) fun e s' hs => hs
  cases fl with
  | ret u =>
    obtain ⟨v, σ', H', J, rv, q⟩ := hs
    exact ⟨v, H', J.os, J.bare, J.base, J.hok, rv, q⟩
  | next =>
    obtain ⟨σ', H', J, q⟩ := hs
    exact nomatch (show V.non = V.bl true from q)
  | brk =>
    obtain ⟨_, _, _, q⟩ := hs
    exact False.elim q
  | cont =>
    obtain ⟨_, _, _, q⟩ := hs
    exact False.elim q
/-- what the call leaves, where nothing is told but the script -/
theorem law_ends (T : Txt K mg cE cW) (TT : TxtT K mg cT) {fa a : Addr} {fd : FuncData} {s : Shared} {vs : List Value} {ns : List Int} {H : Hp} (F : L2.Fun K "law" "law" (top 63) fa fd) (hb : BindsTo s fd ⟨[.ref a], []⟩ [("_law_script", .ref a)]) (KX : K.In s.heap)
    (hns : s.heap.Ns mainGlobals mg) (hbn : s.heap.Ns builtinsNs mb) (hbb : ∀ x : Str, x ≠ "__name__" → mb x = bootBuiltins x) (hlim : s.heap.NoLimit) (hg : s.gens = #[]) (ha : s.heap.get? a = some { cls := .type "list", data := .seq vs.toArray })
    (hl : ns.length ≤ 63) (hO : Only H) (hS : SqL K H a (ns.map V.int)) (hok : HOk P w H s.heap) (hA : ∀ b, b ≠ a → H b = none) (hK : H a ≠ none → K.lookup a = none) :
    codeAny (model P w) callerA (.call (.ref fa) ⟨[.ref a], []⟩) (fun r s' => r = .ok (.ret (.bool true)) ∧ OldK s.heap s'.heap ∧ s'.os = s.os ∧ AllBare s'.gens) s := by
  have ns_of : ∀ {b : Addr} {m : Str → Option Value}, s.heap.Ns b m → (hidT s.heap H).Ns b m := fun {b m} ⟨o, es, ep, e, d, r⟩ => by
    refine ⟨o, es, ep, hidT_get e (hA b fun z => ?_), d, r⟩
    subst z
    rw [ha] at e
    cases e
    cases (show Data.seq vs.toArray _ = Data.dict es ep from d)
  have kin : K.In (hidT s.heap H) := fun b o e => by
    refine hidT_get (KX b o e) ?_
    by_cases z : b = a
    · subst z
      by_cases n : H b = none
      · exact n
      · rw [hK n] at e; cases e
    · exact hA b z
  obtain ⟨mc, hc1, hc2⟩ := hlim
  have e0 : Env0 P w K mg (hidT s.heap H) callerA [] s H := { frames := rfl, mod := ⟨kin, ns_of hns, ⟨mb, ns_of hbn, hbb⟩, mc, ns_of hc1, hc2⟩, bs := fun b o e => of_hidT e, bsz := Nat.le_of_eq (hidT_size _ _), funs := trivial, frf := fun b z => (List.not_mem_nil (show b ∈ ([] : List Addr) from z)).elim, hok := hok, bare := .of_eq hg }
  refine codeAny_mono (law_run T TT F e0 hb hl hS) fun r s' h => ?_
  match r, h with
  | .ok (.ret u), ⟨v, H', os, bare, un, hok', r', q⟩ =>
    obtain rfl : v = .bl true := q
    obtain rfl : u = Value.bool true := r'
    refine ⟨rfl, OldK.of_keep fun b o e => ?_, os, bare⟩
    rcases hO b with z | ⟨ob, xs, z⟩
    · exact un.keep b o e z (fun m => List.not_mem_nil (show b ∈ ([] : List Addr) from m)) (by simp)
    · obtain ⟨e1, _⟩ := hok b _ z
      obtain ⟨e2, _⟩ := hok' b _ (un.frzs b ob _ z)
      rw [e1] at e
      cases e
      exact e2
/-- the call, on any script -/
theorem law_holds (T : Txt K mg cE cW) (TT : TxtT K mg cT) {fa a : Addr} {fd : FuncData} {s : Shared} {vs : List Value} {ns : List Int} (F : L2.Fun K "law" "law" (top 63) fa fd) (hb : BindsTo s fd ⟨[.ref a], []⟩ [("_law_script", .ref a)]) (KX : K.In s.heap)
    (hns : s.heap.Ns mainGlobals mg) (hbn : s.heap.Ns builtinsNs mb) (hbb : ∀ x : Str, x ≠ "__name__" → mb x = bootBuiltins x) (hlim : s.heap.NoLimit) (hg : s.gens = #[]) (ha : s.heap.get? a = some { cls := .type "list", data := .seq vs.toArray }) (hi : IntsAre vs ns)
    (hl : ns.length ≤ 63) : codeAny (model P w) callerA (.call (.ref fa) ⟨[.ref a], []⟩) (fun r s' => r = .ok (.ret (.bool true)) ∧ OldK s.heap s'.heap ∧ s'.os = s.os ∧ AllBare s'.gens) s := by
  have rv := vals_ints hi
  have lv := hi.length
  have small : ns.length ≤ sizeLine := Nat.le_trans hl (by decide)
  cases hk : K.lookup a with
  | some o =>
    have e := KX a o hk
    rw [ha] at e
    cases e
    exact law_ends (H := fun _ => none) T TT F hb KX hns hbn hbb hlim hg ha hl (fun _ => .inl rfl) (.inr ⟨_, vs.toArray, _, hk, rfl, rfl, rfl, by rw [List.size_toArray, lv]; exact small, by simpa using rv⟩) (fun b u z => nomatch (show (none : Option HO) = some u from z)) (fun _ _ => rfl) fun z => absurd rfl z
  | none =>
    refine law_ends (H := fun b => if b = a then some (.frz { cls := .type "list", data := .seq vs.toArray } (.lst (ns.map V.int))) else none) T TT F hb KX hns hbn hbb hlim hg ha hl (fun b => ?_) (.inl (.inr ⟨_, if_pos rfl⟩)) (fun b u z => ?_) (fun b z => if_neg z) fun _ => hk
    · by_cases z : b = a
      · exact .inr ⟨_, _, if_pos z⟩
      · exact .inl (if_neg z)
    · by_cases zb : b = a
      · cases (if_pos zb).symm.trans z
        subst zb
        exact ⟨ha, by rw [List.length_map]; exact small, vs, _, rv, ha⟩
      · cases (if_neg zb).symm.trans z
theorem law_walk {l : PySem.W.OpenLaw} {q : Program} {loose : List Str} {XP : (Str → Option Value) → Heap → Prop} {YP : World → Heap → Prop} {d : DefRec} {KF : Params → PySem.W.Frag} (hn : l.most = some 63) (hdf : d.params.defaults = [])
    (hY : ∀ (w : World) (h : Heap), YP w h → (KF w.params).In h)
    (F : ∀ (w : World) (mg : Str → Option Value) (fa : Addr) (h : Heap), (KF w.params).In h → h.Ns mainGlobals mg → mg d.name = some (.ref fa) →
      ∃ (cE cW cT : Addr) (fd : FuncData), Txt (KF w.params) mg cE cW ∧ TxtT (KF w.params) mg cT ∧ L2.Fun (KF w.params) "law" "law" (top 63) fa fd ∧ ∀ (s : Shared) (u : Value), BindsTo s fd ⟨[u], []⟩ [("_law_script", u)]) :
    PySem.W.WalkO q loose XP YP l.row.toRowW d [] (fun f vs => PySem.call f vs) := by
  refine Att.attach_call hn hdf fun w s₀ s₁ mg mb fa o pm cd doc a vs ns G Y ho hd hcd hmg hobj hints hlen hg => ?_
  have KX := hY w _ Y
  obtain ⟨cE, cW, cT, fd, T, TT, FF, hb⟩ := F w mg fa _ KX G.T.g hmg
  exact law_holds T TT FF (hb s₁ _) KX G.T.g G.T.b G.T.builtins G.T.nolimit hg hobj hints hlen
end K43
set_option Elab.async false
set_option linter.all false
set_option maxRecDepth 100000
set_option maxHeartbeats 4000000
/-! k43, part FS: what the top has written, from facts of the heap. -/
namespace K43
open PySem PySem.Spec L2 Evl C8 PyProof.Rows
variable {K : PySem.W.Frag} {h : Heap} {mg : Str → Option Value} {C S : Addr}
theorem mk7 (X : K.In h) (G : h.Ns mainGlobals mg) {f : Addr} {oc : Value} {od an : Option Addr} {osl : Array (Option Value)} {kV doc pm cdv ct : Value} (a : PySem.W.nsIn K mainGlobals "is_integer" = some (some (.ref f))) (l : K.lookup f = some ⟨oc, od, .func (PySem.W.fnOf "is_integer" "is_integer" (defArgs (top 7)) (defBody (top 7)) (defScope (top 7)) .none kV doc pm an cdv ct), osl⟩) (c : PySem.W.codeIn K cdv "is_integer" = true) (k : PySem.W.keepIn K (.ref f) = true) : TDef K mg "is_integer" (top 7) ["thing"] := ⟨f, _, fun_mk l c k, PySem.W.mg_of X G a, (fun_mk l c k).binds (ps := ["thing"]) (fun _ _ _ _ _ _ us hl => match us, hl with | [_], _ => rfl)⟩
theorem mk8 (X : K.In h) (G : h.Ns mainGlobals mg) {f : Addr} {oc : Value} {od an : Option Addr} {osl : Array (Option Value)} {kV doc pm cdv ct : Value} (a : PySem.W.nsIn K mainGlobals "common" = some (some (.ref f))) (l : K.lookup f = some ⟨oc, od, .func (PySem.W.fnOf "common" "common" (defArgs (top 8)) (defBody (top 8)) (defScope (top 8)) .none kV doc pm an cdv ct), osl⟩) (c : PySem.W.codeIn K cdv "common" = true) (k : PySem.W.keepIn K (.ref f) = true) : TDef K mg "common" (top 8) ["one", "other"] := ⟨f, _, fun_mk l c k, PySem.W.mg_of X G a, (fun_mk l c k).binds (ps := ["one", "other"]) (fun _ _ _ _ _ _ us hl => match us, hl with | [_, _], _ => rfl)⟩
theorem mk10 (X : K.In h) (G : h.Ns mainGlobals mg) {f : Addr} {oc : Value} {od an : Option Addr} {osl : Array (Option Value)} {kV doc pm cdv ct : Value} (a : PySem.W.nsIn K mainGlobals "exact" = some (some (.ref f))) (l : K.lookup f = some ⟨oc, od, .func (PySem.W.fnOf "exact" "exact" (defArgs (top 10)) (defBody (top 10)) (defScope (top 10)) .none kV doc pm an cdv ct), osl⟩) (c : PySem.W.codeIn K cdv "exact" = true) (k : PySem.W.keepIn K (.ref f) = true) : TDef K mg "exact" (top 10) ["pair"] := ⟨f, _, fun_mk l c k, PySem.W.mg_of X G a, (fun_mk l c k).binds (ps := ["pair"]) (fun _ _ _ _ _ _ us hl => match us, hl with | [_], _ => rfl)⟩
theorem mk12 (X : K.In h) (G : h.Ns mainGlobals mg) {f : Addr} {oc : Value} {od an : Option Addr} {osl : Array (Option Value)} {kV doc pm cdv ct : Value} (a : PySem.W.nsIn K mainGlobals "is_fraction" = some (some (.ref f))) (l : K.lookup f = some ⟨oc, od, .func (PySem.W.fnOf "is_fraction" "is_fraction" (defArgs (top 12)) (defBody (top 12)) (defScope (top 12)) .none kV doc pm an cdv ct), osl⟩) (c : PySem.W.codeIn K cdv "is_fraction" = true) (k : PySem.W.keepIn K (.ref f) = true) : TDef K mg "is_fraction" (top 12) ["thing"] := ⟨f, _, fun_mk l c k, PySem.W.mg_of X G a, (fun_mk l c k).binds (ps := ["thing"]) (fun _ _ _ _ _ _ us hl => match us, hl with | [_], _ => rfl)⟩
theorem mk13 (X : K.In h) (G : h.Ns mainGlobals mg) {f : Addr} {oc : Value} {od an : Option Addr} {osl : Array (Option Value)} {kV doc pm cdv ct : Value} (a : PySem.W.nsIn K mainGlobals "is_some" = some (some (.ref f))) (l : K.lookup f = some ⟨oc, od, .func (PySem.W.fnOf "is_some" "is_some" (defArgs (top 13)) (defBody (top 13)) (defScope (top 13)) .none kV doc pm an cdv ct), osl⟩) (c : PySem.W.codeIn K cdv "is_some" = true) (k : PySem.W.keepIn K (.ref f) = true) : TDef K mg "is_some" (top 13) ["thing"] := ⟨f, _, fun_mk l c k, PySem.W.mg_of X G a, (fun_mk l c k).binds (ps := ["thing"]) (fun _ _ _ _ _ _ us hl => match us, hl with | [_], _ => rfl)⟩
theorem mk17 (X : K.In h) (G : h.Ns mainGlobals mg) {f : Addr} {oc : Value} {od an : Option Addr} {osl : Array (Option Value)} {kV doc pm cdv ct : Value} (a : PySem.W.nsIn K mainGlobals "is_ware_below" = some (some (.ref f))) (l : K.lookup f = some ⟨oc, od, .func (PySem.W.fnOf "is_ware_below" "is_ware_below" (defArgs (top 17)) (defBody (top 17)) (defScope (top 17)) .none kV doc pm an cdv ct), osl⟩) (c : PySem.W.codeIn K cdv "is_ware_below" = true) (k : PySem.W.keepIn K (.ref f) = true) : TDef K mg "is_ware_below" (top 17) ["thing", "wares"] := ⟨f, _, fun_mk l c k, PySem.W.mg_of X G a, (fun_mk l c k).binds (ps := ["thing", "wares"]) (fun _ _ _ _ _ _ us hl => match us, hl with | [_, _], _ => rfl)⟩
theorem mk18 (X : K.In h) (G : h.Ns mainGlobals mg) {f : Addr} {oc : Value} {od an : Option Addr} {osl : Array (Option Value)} {kV doc pm cdv ct : Value} (a : PySem.W.nsIn K mainGlobals "is_stall" = some (some (.ref f))) (l : K.lookup f = some ⟨oc, od, .func (PySem.W.fnOf "is_stall" "is_stall" (defArgs (top 18)) (defBody (top 18)) (defScope (top 18)) .none kV doc pm an cdv ct), osl⟩) (c : PySem.W.codeIn K cdv "is_stall" = true) (k : PySem.W.keepIn K (.ref f) = true) : TDef K mg "is_stall" (top 18) ["thing", "wares"] := ⟨f, _, fun_mk l c k, PySem.W.mg_of X G a, (fun_mk l c k).binds (ps := ["thing", "wares"]) (fun _ _ _ _ _ _ us hl => match us, hl with | [_, _], _ => rfl)⟩
theorem mk20 (X : K.In h) (G : h.Ns mainGlobals mg) {f : Addr} {oc : Value} {od an : Option Addr} {osl : Array (Option Value)} {kV doc pm cdv ct : Value} (a : PySem.W.nsIn K mainGlobals "roots_exact" = some (some (.ref f))) (l : K.lookup f = some ⟨oc, od, .func (PySem.W.fnOf "roots_exact" "roots_exact" (defArgs (top 20)) (defBody (top 20)) (defScope (top 20)) .none kV doc pm an cdv ct), osl⟩) (c : PySem.W.codeIn K cdv "roots_exact" = true) (k : PySem.W.keepIn K (.ref f) = true) : TDef K mg "roots_exact" (top 20) ["web"] := ⟨f, _, fun_mk l c k, PySem.W.mg_of X G a, (fun_mk l c k).binds (ps := ["web"]) (fun _ _ _ _ _ _ us hl => match us, hl with | [_], _ => rfl)⟩
theorem mk21 (X : K.In h) (G : h.Ns mainGlobals mg) {f : Addr} {oc : Value} {od an : Option Addr} {osl : Array (Option Value)} {kV doc pm cdv ct : Value} (a : PySem.W.nsIn K mainGlobals "other_ware" = some (some (.ref f))) (l : K.lookup f = some ⟨oc, od, .func (PySem.W.fnOf "other_ware" "other_ware" (defArgs (top 21)) (defBody (top 21)) (defScope (top 21)) .none kV doc pm an cdv ct), osl⟩) (c : PySem.W.codeIn K cdv "other_ware" = true) (k : PySem.W.keepIn K (.ref f) = true) : TDef K mg "other_ware" (top 21) ["stall", "ware"] := ⟨f, _, fun_mk l c k, PySem.W.mg_of X G a, (fun_mk l c k).binds (ps := ["stall", "ware"]) (fun _ _ _ _ _ _ us hl => match us, hl with | [_, _], _ => rfl)⟩
theorem mk22 (X : K.In h) (G : h.Ns mainGlobals mg) {f : Addr} {oc : Value} {od an : Option Addr} {osl : Array (Option Value)} {kV doc pm cdv ct : Value} (a : PySem.W.nsIn K mainGlobals "held_of" = some (some (.ref f))) (l : K.lookup f = some ⟨oc, od, .func (PySem.W.fnOf "held_of" "held_of" (defArgs (top 22)) (defBody (top 22)) (defScope (top 22)) .none kV doc pm an cdv ct), osl⟩) (c : PySem.W.codeIn K cdv "held_of" = true) (k : PySem.W.keepIn K (.ref f) = true) : TDef K mg "held_of" (top 22) ["stall", "ware"] := ⟨f, _, fun_mk l c k, PySem.W.mg_of X G a, (fun_mk l c k).binds (ps := ["stall", "ware"]) (fun _ _ _ _ _ _ us hl => match us, hl with | [_, _], _ => rfl)⟩
theorem mk23 (X : K.In h) (G : h.Ns mainGlobals mg) {f : Addr} {oc : Value} {od an : Option Addr} {osl : Array (Option Value)} {kV doc pm cdv ct : Value} (a : PySem.W.nsIn K mainGlobals "root_exact" = some (some (.ref f))) (l : K.lookup f = some ⟨oc, od, .func (PySem.W.fnOf "root_exact" "root_exact" (defArgs (top 23)) (defBody (top 23)) (defScope (top 23)) .none kV doc pm an cdv ct), osl⟩) (c : PySem.W.codeIn K cdv "root_exact" = true) (k : PySem.W.keepIn K (.ref f) = true) : TDef K mg "root_exact" (top 23) ["stall"] := ⟨f, _, fun_mk l c k, PySem.W.mg_of X G a, (fun_mk l c k).binds (ps := ["stall"]) (fun _ _ _ _ _ _ us hl => match us, hl with | [_], _ => rfl)⟩
theorem mk24 (X : K.In h) (G : h.Ns mainGlobals mg) {f : Addr} {oc : Value} {od an : Option Addr} {osl : Array (Option Value)} {kV doc pm cdv ct : Value} (a : PySem.W.nsIn K mainGlobals "piece_of" = some (some (.ref f))) (l : K.lookup f = some ⟨oc, od, .func (PySem.W.fnOf "piece_of" "piece_of" (defArgs (top 24)) (defBody (top 24)) (defScope (top 24)) .none kV doc pm an cdv ct), osl⟩) (c : PySem.W.codeIn K cdv "piece_of" = true) (k : PySem.W.keepIn K (.ref f) = true) : TDef K mg "piece_of" (top 24) ["web", "ware"] := ⟨f, _, fun_mk l c k, PySem.W.mg_of X G a, (fun_mk l c k).binds (ps := ["web", "ware"]) (fun _ _ _ _ _ _ us hl => match us, hl with | [_, _], _ => rfl)⟩
theorem mk25 (X : K.In h) (G : h.Ns mainGlobals mg) {f : Addr} {oc : Value} {od an : Option Addr} {osl : Array (Option Value)} {kV doc pm cdv ct : Value} (a : PySem.W.nsIn K mainGlobals "pieces" = some (some (.ref f))) (l : K.lookup f = some ⟨oc, od, .func (PySem.W.fnOf "pieces" "pieces" (defArgs (top 25)) (defBody (top 25)) (defScope (top 25)) .none kV doc pm an cdv ct), osl⟩) (c : PySem.W.codeIn K cdv "pieces" = true) (k : PySem.W.keepIn K (.ref f) = true) : TDef K mg "pieces" (top 25) ["web"] := ⟨f, _, fun_mk l c k, PySem.W.mg_of X G a, (fun_mk l c k).binds (ps := ["web"]) (fun _ _ _ _ _ _ us hl => match us, hl with | [_], _ => rfl)⟩
theorem mk27 (X : K.In h) (G : h.Ns mainGlobals mg) {f : Addr} {oc : Value} {od an : Option Addr} {osl : Array (Option Value)} {kV doc pm cdv ct : Value} (a : PySem.W.nsIn K mainGlobals "next_scale" = some (some (.ref f))) (l : K.lookup f = some ⟨oc, od, .func (PySem.W.fnOf "next_scale" "next_scale" (defArgs (top 27)) (defBody (top 27)) (defScope (top 27)) .none kV doc pm an cdv ct), osl⟩) (c : PySem.W.codeIn K cdv "next_scale" = true) (k : PySem.W.keepIn K (.ref f) = true) : TDef K mg "next_scale" (top 27) ["stall", "ware", "scale"] := ⟨f, _, fun_mk l c k, PySem.W.mg_of X G a, (fun_mk l c k).binds (ps := ["stall", "ware", "scale"]) (fun _ _ _ _ _ _ us hl => match us, hl with | [_, _, _], _ => rfl)⟩
theorem mk28 (X : K.In h) (G : h.Ns mainGlobals mg) {f : Addr} {oc : Value} {od an : Option Addr} {osl : Array (Option Value)} {kV doc pm cdv ct : Value} (a : PySem.W.nsIn K mainGlobals "scales_and_ways" = some (some (.ref f))) (l : K.lookup f = some ⟨oc, od, .func (PySem.W.fnOf "scales_and_ways" "scales_and_ways" (defArgs (top 28)) (defBody (top 28)) (defScope (top 28)) .none kV doc pm an cdv ct), osl⟩) (c : PySem.W.codeIn K cdv "scales_and_ways" = true) (k : PySem.W.keepIn K (.ref f) = true) : TDef K mg "scales_and_ways" (top 28) ["web"] := ⟨f, _, fun_mk l c k, PySem.W.mg_of X G a, (fun_mk l c k).binds (ps := ["web"]) (fun _ _ _ _ _ _ us hl => match us, hl with | [_], _ => rfl)⟩
theorem mk29 (X : K.In h) (G : h.Ns mainGlobals mg) {f : Addr} {oc : Value} {od an : Option Addr} {osl : Array (Option Value)} {kV doc pm cdv ct : Value} (a : PySem.W.nsIn K mainGlobals "uneven_stall" = some (some (.ref f))) (l : K.lookup f = some ⟨oc, od, .func (PySem.W.fnOf "uneven_stall" "uneven_stall" (defArgs (top 29)) (defBody (top 29)) (defScope (top 29)) .none kV doc pm an cdv ct), osl⟩) (c : PySem.W.codeIn K cdv "uneven_stall" = true) (k : PySem.W.keepIn K (.ref f) = true) : TDef K mg "uneven_stall" (top 29) ["web", "found"] := ⟨f, _, fun_mk l c k, PySem.W.mg_of X G a, (fun_mk l c k).binds (ps := ["web", "found"]) (fun _ _ _ _ _ _ us hl => match us, hl with | [_, _], _ => rfl)⟩
theorem mk30 (X : K.In h) (G : h.Ns mainGlobals mg) {f : Addr} {oc : Value} {od an : Option Addr} {osl : Array (Option Value)} {kV doc pm cdv ct : Value} (a : PySem.W.nsIn K mainGlobals "fit_exact" = some (some (.ref f))) (l : K.lookup f = some ⟨oc, od, .func (PySem.W.fnOf "fit_exact" "fit_exact" (defArgs (top 30)) (defBody (top 30)) (defScope (top 30)) .none kV doc pm an cdv ct), osl⟩) (c : PySem.W.codeIn K cdv "fit_exact" = true) (k : PySem.W.keepIn K (.ref f) = true) : TDef K mg "fit_exact" (top 30) ["web"] := ⟨f, _, fun_mk l c k, PySem.W.mg_of X G a, (fun_mk l c k).binds (ps := ["web"]) (fun _ _ _ _ _ _ us hl => match us, hl with | [_], _ => rfl)⟩
theorem mk31 (X : K.In h) (G : h.Ns mainGlobals mg) {f : Addr} {oc : Value} {od an : Option Addr} {osl : Array (Option Value)} {kV doc pm cdv ct : Value} (a : PySem.W.nsIn K mainGlobals "fit" = some (some (.ref f))) (l : K.lookup f = some ⟨oc, od, .func (PySem.W.fnOf "fit" "fit" (defArgs (top 31)) (defBody (top 31)) (defScope (top 31)) .none kV doc pm an cdv ct), osl⟩) (c : PySem.W.codeIn K cdv "fit" = true) (k : PySem.W.keepIn K (.ref f) = true) : TDef K mg "fit" (top 31) ["web"] := ⟨f, _, fun_mk l c k, PySem.W.mg_of X G a, (fun_mk l c k).binds (ps := ["web"]) (fun _ _ _ _ _ _ us hl => match us, hl with | [_], _ => rfl)⟩
theorem mk32 (X : K.In h) (G : h.Ns mainGlobals mg) {f : Addr} {oc : Value} {od an : Option Addr} {osl : Array (Option Value)} {kV doc pm cdv ct : Value} (a : PySem.W.nsIn K mainGlobals "is_ring" = some (some (.ref f))) (l : K.lookup f = some ⟨oc, od, .func (PySem.W.fnOf "is_ring" "is_ring" (defArgs (top 32)) (defBody (top 32)) (defScope (top 32)) .none kV doc pm an cdv ct), osl⟩) (c : PySem.W.codeIn K cdv "is_ring" = true) (k : PySem.W.keepIn K (.ref f) = true) : TDef K mg "is_ring" (top 32) ["web", "thing"] := ⟨f, _, fun_mk l c k, PySem.W.mg_of X G a, (fun_mk l c k).binds (ps := ["web", "thing"]) (fun _ _ _ _ _ _ us hl => match us, hl with | [_, _], _ => rfl)⟩
theorem mk33 (X : K.In h) (G : h.Ns mainGlobals mg) {f : Addr} {oc : Value} {od an : Option Addr} {osl : Array (Option Value)} {kV doc pm cdv ct : Value} (a : PySem.W.nsIn K mainGlobals "is_uneven_ring" = some (some (.ref f))) (l : K.lookup f = some ⟨oc, od, .func (PySem.W.fnOf "is_uneven_ring" "is_uneven_ring" (defArgs (top 33)) (defBody (top 33)) (defScope (top 33)) .none kV doc pm an cdv ct), osl⟩) (c : PySem.W.codeIn K cdv "is_uneven_ring" = true) (k : PySem.W.keepIn K (.ref f) = true) : TDef K mg "is_uneven_ring" (top 33) ["web", "thing"] := ⟨f, _, fun_mk l c k, PySem.W.mg_of X G a, (fun_mk l c k).binds (ps := ["web", "thing"]) (fun _ _ _ _ _ _ us hl => match us, hl with | [_, _], _ => rfl)⟩
theorem mk36 (X : K.In h) (G : h.Ns mainGlobals mg) {f : Addr} {oc : Value} {od an : Option Addr} {osl : Array (Option Value)} {kV doc pm cdv ct : Value} (a : PySem.W.nsIn K mainGlobals "turned_about" = some (some (.ref f))) (l : K.lookup f = some ⟨oc, od, .func (PySem.W.fnOf "turned_about" "turned_about" (defArgs (top 36)) (defBody (top 36)) (defScope (top 36)) .none kV doc pm an cdv ct), osl⟩) (c : PySem.W.codeIn K cdv "turned_about" = true) (k : PySem.W.keepIn K (.ref f) = true) : TDef K mg "turned_about" (top 36) ["web", "ring"] := ⟨f, _, fun_mk l c k, PySem.W.mg_of X G a, (fun_mk l c k).binds (ps := ["web", "ring"]) (fun _ _ _ _ _ _ us hl => match us, hl with | [_, _], _ => rfl)⟩
theorem mk37 (X : K.In h) (G : h.Ns mainGlobals mg) {f : Addr} {oc : Value} {od an : Option Addr} {osl : Array (Option Value)} {kV doc pm cdv ct : Value} (a : PySem.W.nsIn K mainGlobals "least_way" = some (some (.ref f))) (l : K.lookup f = some ⟨oc, od, .func (PySem.W.fnOf "least_way" "least_way" (defArgs (top 37)) (defBody (top 37)) (defScope (top 37)) .none kV doc pm an cdv ct), osl⟩) (c : PySem.W.codeIn K cdv "least_way" = true) (k : PySem.W.keepIn K (.ref f) = true) : TDef K mg "least_way" (top 37) ["web", "ring"] := ⟨f, _, fun_mk l c k, PySem.W.mg_of X G a, (fun_mk l c k).binds (ps := ["web", "ring"]) (fun _ _ _ _ _ _ us hl => match us, hl with | [_, _], _ => rfl)⟩
theorem mk38 (X : K.In h) (G : h.Ns mainGlobals mg) {f : Addr} {oc : Value} {od an : Option Addr} {osl : Array (Option Value)} {kV doc pm cdv ct : Value} (a : PySem.W.nsIn K mainGlobals "ways_on" = some (some (.ref f))) (l : K.lookup f = some ⟨oc, od, .func (PySem.W.fnOf "ways_on" "ways_on" (defArgs (top 38)) (defBody (top 38)) (defScope (top 38)) .none kV doc pm an cdv ct), osl⟩) (c : PySem.W.codeIn K cdv "ways_on" = true) (k : PySem.W.keepIn K (.ref f) = true) : TDef K mg "ways_on" (top 38) ["web", "way", "here"] := ⟨f, _, fun_mk l c k, PySem.W.mg_of X G a, (fun_mk l c k).binds (ps := ["web", "way", "here"]) (fun _ _ _ _ _ _ us hl => match us, hl with | [_, _, _], _ => rfl)⟩
theorem mk39 (X : K.In h) (G : h.Ns mainGlobals mg) {f : Addr} {oc : Value} {od an : Option Addr} {osl : Array (Option Value)} {kV doc pm cdv ct : Value} (a : PySem.W.nsIn K mainGlobals "rings" = some (some (.ref f))) (l : K.lookup f = some ⟨oc, od, .func (PySem.W.fnOf "rings" "rings" (defArgs (top 39)) (defBody (top 39)) (defScope (top 39)) .none kV doc pm an cdv ct), osl⟩) (c : PySem.W.codeIn K cdv "rings" = true) (k : PySem.W.keepIn K (.ref f) = true) : TDef K mg "rings" (top 39) ["web"] := ⟨f, _, fun_mk l c k, PySem.W.mg_of X G a, (fun_mk l c k).binds (ps := ["web"]) (fun _ _ _ _ _ _ us hl => match us, hl with | [_], _ => rfl)⟩
theorem mk40 (X : K.In h) (G : h.Ns mainGlobals mg) {f : Addr} {oc : Value} {od an : Option Addr} {osl : Array (Option Value)} {kV doc pm cdv ct : Value} (a : PySem.W.nsIn K mainGlobals "uneven_rings" = some (some (.ref f))) (l : K.lookup f = some ⟨oc, od, .func (PySem.W.fnOf "uneven_rings" "uneven_rings" (defArgs (top 40)) (defBody (top 40)) (defScope (top 40)) .none kV doc pm an cdv ct), osl⟩) (c : PySem.W.codeIn K cdv "uneven_rings" = true) (k : PySem.W.keepIn K (.ref f) = true) : TDef K mg "uneven_rings" (top 40) ["web"] := ⟨f, _, fun_mk l c k, PySem.W.mg_of X G a, (fun_mk l c k).binds (ps := ["web"]) (fun _ _ _ _ _ _ us hl => match us, hl with | [_], _ => rfl)⟩
theorem mk42 (X : K.In h) (G : h.Ns mainGlobals mg) {f : Addr} {oc : Value} {od an : Option Addr} {osl : Array (Option Value)} {kV doc pm cdv ct : Value} (a : PySem.W.nsIn K mainGlobals "_law_hand" = some (some (.ref f))) (l : K.lookup f = some ⟨oc, od, .func (PySem.W.fnOf "_law_hand" "_law_hand" (defArgs (top 42)) (defBody (top 42)) (defScope (top 42)) .none kV doc pm an cdv ct), osl⟩) (c : PySem.W.codeIn K cdv "_law_hand" = true) (k : PySem.W.keepIn K (.ref f) = true) : TDef K mg "_law_hand" (top 42) ["_law_script"] := ⟨f, _, fun_mk l c k, PySem.W.mg_of X G a, (fun_mk l c k).binds (ps := ["_law_script"]) (fun _ _ _ _ _ _ us hl => match us, hl with | [_], _ => rfl)⟩
theorem mk43 (X : K.In h) (G : h.Ns mainGlobals mg) {f : Addr} {oc : Value} {od an : Option Addr} {osl : Array (Option Value)} {kV doc pm cdv ct : Value} (a : PySem.W.nsIn K mainGlobals "_law_draw" = some (some (.ref f))) (l : K.lookup f = some ⟨oc, od, .func (PySem.W.fnOf "_law_draw" "_law_draw" (defArgs (top 43)) (defBody (top 43)) (defScope (top 43)) .none kV doc pm an cdv ct), osl⟩) (c : PySem.W.codeIn K cdv "_law_draw" = true) (k : PySem.W.keepIn K (.ref f) = true) : TDef K mg "_law_draw" (top 43) ["_law_hand_here", "_law_many_here"] := ⟨f, _, fun_mk l c k, PySem.W.mg_of X G a, (fun_mk l c k).binds (ps := ["_law_hand_here", "_law_many_here"]) (fun _ _ _ _ _ _ us hl => match us, hl with | [_, _], _ => rfl)⟩
theorem mk44 (X : K.In h) (G : h.Ns mainGlobals mg) {f : Addr} {oc : Value} {od an : Option Addr} {osl : Array (Option Value)} {kV doc pm cdv ct : Value} (a : PySem.W.nsIn K mainGlobals "_law_gcd" = some (some (.ref f))) (l : K.lookup f = some ⟨oc, od, .func (PySem.W.fnOf "_law_gcd" "_law_gcd" (defArgs (top 44)) (defBody (top 44)) (defScope (top 44)) .none kV doc pm an cdv ct), osl⟩) (c : PySem.W.codeIn K cdv "_law_gcd" = true) (k : PySem.W.keepIn K (.ref f) = true) : TDef K mg "_law_gcd" (top 44) ["_law_one", "_law_other"] := ⟨f, _, fun_mk l c k, PySem.W.mg_of X G a, (fun_mk l c k).binds (ps := ["_law_one", "_law_other"]) (fun _ _ _ _ _ _ us hl => match us, hl with | [_, _], _ => rfl)⟩
theorem mk45 (X : K.In h) (G : h.Ns mainGlobals mg) {f : Addr} {oc : Value} {od an : Option Addr} {osl : Array (Option Value)} {kV doc pm cdv ct : Value} (a : PySem.W.nsIn K mainGlobals "_law_frac" = some (some (.ref f))) (l : K.lookup f = some ⟨oc, od, .func (PySem.W.fnOf "_law_frac" "_law_frac" (defArgs (top 45)) (defBody (top 45)) (defScope (top 45)) .none kV doc pm an cdv ct), osl⟩) (c : PySem.W.codeIn K cdv "_law_frac" = true) (k : PySem.W.keepIn K (.ref f) = true) : TDef K mg "_law_frac" (top 45) ["_law_top", "_law_bottom"] := ⟨f, _, fun_mk l c k, PySem.W.mg_of X G a, (fun_mk l c k).binds (ps := ["_law_top", "_law_bottom"]) (fun _ _ _ _ _ _ us hl => match us, hl with | [_, _], _ => rfl)⟩
theorem mk48 (X : K.In h) (G : h.Ns mainGlobals mg) {f : Addr} {oc : Value} {od an : Option Addr} {osl : Array (Option Value)} {kV doc pm cdv ct : Value} (a : PySem.W.nsIn K mainGlobals "_law_times" = some (some (.ref f))) (l : K.lookup f = some ⟨oc, od, .func (PySem.W.fnOf "_law_times" "_law_times" (defArgs (top 48)) (defBody (top 48)) (defScope (top 48)) .none kV doc pm an cdv ct), osl⟩) (c : PySem.W.codeIn K cdv "_law_times" = true) (k : PySem.W.keepIn K (.ref f) = true) : TDef K mg "_law_times" (top 48) ["_law_one", "_law_other"] := ⟨f, _, fun_mk l c k, PySem.W.mg_of X G a, (fun_mk l c k).binds (ps := ["_law_one", "_law_other"]) (fun _ _ _ _ _ _ us hl => match us, hl with | [_, _], _ => rfl)⟩
theorem mk49 (X : K.In h) (G : h.Ns mainGlobals mg) {f : Addr} {oc : Value} {od an : Option Addr} {osl : Array (Option Value)} {kV doc pm cdv ct : Value} (a : PySem.W.nsIn K mainGlobals "_law_over" = some (some (.ref f))) (l : K.lookup f = some ⟨oc, od, .func (PySem.W.fnOf "_law_over" "_law_over" (defArgs (top 49)) (defBody (top 49)) (defScope (top 49)) .none kV doc pm an cdv ct), osl⟩) (c : PySem.W.codeIn K cdv "_law_over" = true) (k : PySem.W.keepIn K (.ref f) = true) : TDef K mg "_law_over" (top 49) ["_law_one", "_law_other"] := ⟨f, _, fun_mk l c k, PySem.W.mg_of X G a, (fun_mk l c k).binds (ps := ["_law_one", "_law_other"]) (fun _ _ _ _ _ _ us hl => match us, hl with | [_, _], _ => rfl)⟩
theorem mk50 (X : K.In h) (G : h.Ns mainGlobals mg) {f : Addr} {oc : Value} {od an : Option Addr} {osl : Array (Option Value)} {kV doc pm cdv ct : Value} (a : PySem.W.nsIn K mainGlobals "_law_some" = some (some (.ref f))) (l : K.lookup f = some ⟨oc, od, .func (PySem.W.fnOf "_law_some" "_law_some" (defArgs (top 50)) (defBody (top 50)) (defScope (top 50)) .none kV doc pm an cdv ct), osl⟩) (c : PySem.W.codeIn K cdv "_law_some" = true) (k : PySem.W.keepIn K (.ref f) = true) : TDef K mg "_law_some" (top 50) ["_law_hand_here"] := ⟨f, _, fun_mk l c k, PySem.W.mg_of X G a, (fun_mk l c k).binds (ps := ["_law_hand_here"]) (fun _ _ _ _ _ _ us hl => match us, hl with | [_], _ => rfl)⟩
theorem mk51 (X : K.In h) (G : h.Ns mainGlobals mg) {f : Addr} {oc : Value} {od an : Option Addr} {osl : Array (Option Value)} {kV doc pm cdv ct : Value} (a : PySem.W.nsIn K mainGlobals "_law_shuffled" = some (some (.ref f))) (l : K.lookup f = some ⟨oc, od, .func (PySem.W.fnOf "_law_shuffled" "_law_shuffled" (defArgs (top 51)) (defBody (top 51)) (defScope (top 51)) .none kV doc pm an cdv ct), osl⟩) (c : PySem.W.codeIn K cdv "_law_shuffled" = true) (k : PySem.W.keepIn K (.ref f) = true) : TDef K mg "_law_shuffled" (top 51) ["_law_hand_here", "_law_things"] := ⟨f, _, fun_mk l c k, PySem.W.mg_of X G a, (fun_mk l c k).binds (ps := ["_law_hand_here", "_law_things"]) (fun _ _ _ _ _ _ us hl => match us, hl with | [_, _], _ => rfl)⟩
theorem mk52 (X : K.In h) (G : h.Ns mainGlobals mg) {f : Addr} {oc : Value} {od an : Option Addr} {osl : Array (Option Value)} {kV doc pm cdv ct : Value} (a : PySem.W.nsIn K mainGlobals "_law_stall" = some (some (.ref f))) (l : K.lookup f = some ⟨oc, od, .func (PySem.W.fnOf "_law_stall" "_law_stall" (defArgs (top 52)) (defBody (top 52)) (defScope (top 52)) .none kV doc pm an cdv ct), osl⟩) (c : PySem.W.codeIn K cdv "_law_stall" = true) (k : PySem.W.keepIn K (.ref f) = true) : TDef K mg "_law_stall" (top 52) ["_law_hand_here", "_law_one", "_law_other", "_law_quotient"] := ⟨f, _, fun_mk l c k, PySem.W.mg_of X G a, (fun_mk l c k).binds (ps := ["_law_hand_here", "_law_one", "_law_other", "_law_quotient"]) (fun _ _ _ _ _ _ us hl => match us, hl with | [_, _, _, _], _ => rfl)⟩
theorem mk53 (X : K.In h) (G : h.Ns mainGlobals mg) {f : Addr} {oc : Value} {od an : Option Addr} {osl : Array (Option Value)} {kV doc pm cdv ct : Value} (a : PySem.W.nsIn K mainGlobals "_law_stalls" = some (some (.ref f))) (l : K.lookup f = some ⟨oc, od, .func (PySem.W.fnOf "_law_stalls" "_law_stalls" (defArgs (top 53)) (defBody (top 53)) (defScope (top 53)) .none kV doc pm an cdv ct), osl⟩) (c : PySem.W.codeIn K cdv "_law_stalls" = true) (k : PySem.W.keepIn K (.ref f) = true) : TDef K mg "_law_stalls" (top 53) ["_law_hand_here", "_law_wares", "_law_many_here", "_law_way"] := ⟨f, _, fun_mk l c k, PySem.W.mg_of X G a, (fun_mk l c k).binds (ps := ["_law_hand_here", "_law_wares", "_law_many_here", "_law_way"]) (fun _ _ _ _ _ _ us hl => match us, hl with | [_, _, _, _], _ => rfl)⟩
theorem mk55 (X : K.In h) (G : h.Ns mainGlobals mg) {f : Addr} {oc : Value} {od an : Option Addr} {osl : Array (Option Value)} {kV doc pm cdv ct : Value} (a : PySem.W.nsIn K mainGlobals "_law_whole" = some (some (.ref f))) (l : K.lookup f = some ⟨oc, od, .func (PySem.W.fnOf "_law_whole" "_law_whole" (defArgs (top 55)) (defBody (top 55)) (defScope (top 55)) .none kV doc pm an cdv ct), osl⟩) (c : PySem.W.codeIn K cdv "_law_whole" = true) (k : PySem.W.keepIn K (.ref f) = true) : TDef K mg "_law_whole" (top 55) ["_law_thing"] := ⟨f, _, fun_mk l c k, PySem.W.mg_of X G a, (fun_mk l c k).binds (ps := ["_law_thing"]) (fun _ _ _ _ _ _ us hl => match us, hl with | [_], _ => rfl)⟩
theorem mk56 (X : K.In h) (G : h.Ns mainGlobals mg) {f : Addr} {oc : Value} {od an : Option Addr} {osl : Array (Option Value)} {kV doc pm cdv ct : Value} (a : PySem.W.nsIn K mainGlobals "_law_is_uneven" = some (some (.ref f))) (l : K.lookup f = some ⟨oc, od, .func (PySem.W.fnOf "_law_is_uneven" "_law_is_uneven" (defArgs (top 56)) (defBody (top 56)) (defScope (top 56)) .none kV doc pm an cdv ct), osl⟩) (c : PySem.W.codeIn K cdv "_law_is_uneven" = true) (k : PySem.W.keepIn K (.ref f) = true) : TDef K mg "_law_is_uneven" (top 56) ["_law_stalls_here", "_law_thing"] := ⟨f, _, fun_mk l c k, PySem.W.mg_of X G a, (fun_mk l c k).binds (ps := ["_law_stalls_here", "_law_thing"]) (fun _ _ _ _ _ _ us hl => match us, hl with | [_, _], _ => rfl)⟩
theorem mk57 (X : K.In h) (G : h.Ns mainGlobals mg) {f : Addr} {oc : Value} {od an : Option Addr} {osl : Array (Option Value)} {kV doc pm cdv ct : Value} (a : PySem.W.nsIn K mainGlobals "_law_walked" = some (some (.ref f))) (l : K.lookup f = some ⟨oc, od, .func (PySem.W.fnOf "_law_walked" "_law_walked" (defArgs (top 57)) (defBody (top 57)) (defScope (top 57)) .none kV doc pm an cdv ct), osl⟩) (c : PySem.W.codeIn K cdv "_law_walked" = true) (k : PySem.W.keepIn K (.ref f) = true) : TDef K mg "_law_walked" (top 57) ["_law_stalls_here", "_law_lot"] := ⟨f, _, fun_mk l c k, PySem.W.mg_of X G a, (fun_mk l c k).binds (ps := ["_law_stalls_here", "_law_lot"]) (fun _ _ _ _ _ _ us hl => match us, hl with | [_, _], _ => rfl)⟩
theorem mk58 (X : K.In h) (G : h.Ns mainGlobals mg) {f : Addr} {oc : Value} {od an : Option Addr} {osl : Array (Option Value)} {kV doc pm cdv ct : Value} (a : PySem.W.nsIn K mainGlobals "_law_least" = some (some (.ref f))) (l : K.lookup f = some ⟨oc, od, .func (PySem.W.fnOf "_law_least" "_law_least" (defArgs (top 58)) (defBody (top 58)) (defScope (top 58)) .none kV doc pm an cdv ct), osl⟩) (c : PySem.W.codeIn K cdv "_law_least" = true) (k : PySem.W.keepIn K (.ref f) = true) : TDef K mg "_law_least" (top 58) ["_law_stalls_here", "_law_ring"] := ⟨f, _, fun_mk l c k, PySem.W.mg_of X G a, (fun_mk l c k).binds (ps := ["_law_stalls_here", "_law_ring"]) (fun _ _ _ _ _ _ us hl => match us, hl with | [_, _], _ => rfl)⟩
theorem mk59 (X : K.In h) (G : h.Ns mainGlobals mg) {f : Addr} {oc : Value} {od an : Option Addr} {osl : Array (Option Value)} {kV doc pm cdv ct : Value} (a : PySem.W.nsIn K mainGlobals "_law_turnings" = some (some (.ref f))) (l : K.lookup f = some ⟨oc, od, .func (PySem.W.fnOf "_law_turnings" "_law_turnings" (defArgs (top 59)) (defBody (top 59)) (defScope (top 59)) .none kV doc pm an cdv ct), osl⟩) (c : PySem.W.codeIn K cdv "_law_turnings" = true) (k : PySem.W.keepIn K (.ref f) = true) : TDef K mg "_law_turnings" (top 59) ["_law_ring"] := ⟨f, _, fun_mk l c k, PySem.W.mg_of X G a, (fun_mk l c k).binds (ps := ["_law_ring"]) (fun _ _ _ _ _ _ us hl => match us, hl with | [_], _ => rfl)⟩
theorem mk60 (X : K.In h) (G : h.Ns mainGlobals mg) {f : Addr} {oc : Value} {od an : Option Addr} {osl : Array (Option Value)} {kV doc pm cdv ct : Value} (a : PySem.W.nsIn K mainGlobals "_law_rings" = some (some (.ref f))) (l : K.lookup f = some ⟨oc, od, .func (PySem.W.fnOf "_law_rings" "_law_rings" (defArgs (top 60)) (defBody (top 60)) (defScope (top 60)) .none kV doc pm an cdv ct), osl⟩) (c : PySem.W.codeIn K cdv "_law_rings" = true) (k : PySem.W.keepIn K (.ref f) = true) : TDef K mg "_law_rings" (top 60) ["_law_stalls_here"] := ⟨f, _, fun_mk l c k, PySem.W.mg_of X G a, (fun_mk l c k).binds (ps := ["_law_stalls_here"]) (fun _ _ _ _ _ _ us hl => match us, hl with | [_], _ => rfl)⟩
theorem mk61 (X : K.In h) (G : h.Ns mainGlobals mg) {f : Addr} {oc : Value} {od an : Option Addr} {osl : Array (Option Value)} {kV doc pm cdv ct : Value} (a : PySem.W.nsIn K mainGlobals "_law_many" = some (some (.ref f))) (l : K.lookup f = some ⟨oc, od, .func (PySem.W.fnOf "_law_many" "_law_many" (defArgs (top 61)) (defBody (top 61)) (defScope (top 61)) .none kV doc pm an cdv ct), osl⟩) (c : PySem.W.codeIn K cdv "_law_many" = true) (k : PySem.W.keepIn K (.ref f) = true) : TDef K mg "_law_many" (top 61) ["_law_which", "_law_web"] := ⟨f, _, fun_mk l c k, PySem.W.mg_of X G a, (fun_mk l c k).binds (ps := ["_law_which", "_law_web"]) (fun _ _ _ _ _ _ us hl => match us, hl with | [_, _], _ => rfl)⟩
theorem mk62 (X : K.In h) (G : h.Ns mainGlobals mg) {f : Addr} {oc : Value} {od an : Option Addr} {osl : Array (Option Value)} {kV doc pm cdv ct : Value} (a : PySem.W.nsIn K mainGlobals "_law_beside_right" = some (some (.ref f))) (l : K.lookup f = some ⟨oc, od, .func (PySem.W.fnOf "_law_beside_right" "_law_beside_right" (defArgs (top 62)) (defBody (top 62)) (defScope (top 62)) .none kV doc pm an cdv ct), osl⟩) (c : PySem.W.codeIn K cdv "_law_beside_right" = true) (k : PySem.W.keepIn K (.ref f) = true) : TDef K mg "_law_beside_right" (top 62) ["_law_hand_here"] := ⟨f, _, fun_mk l c k, PySem.W.mg_of X G a, (fun_mk l c k).binds (ps := ["_law_hand_here"]) (fun _ _ _ _ _ _ us hl => match us, hl with | [_], _ => rfl)⟩
theorem mk63 (X : K.In h) (G : h.Ns mainGlobals mg) {f : Addr} {oc : Value} {od an : Option Addr} {osl : Array (Option Value)} {kV doc pm cdv ct : Value} (a : PySem.W.nsIn K mainGlobals "law" = some (some (.ref f))) (l : K.lookup f = some ⟨oc, od, .func (PySem.W.fnOf "law" "law" (defArgs (top 63)) (defBody (top 63)) (defScope (top 63)) .none kV doc pm an cdv ct), osl⟩) (c : PySem.W.codeIn K cdv "law" = true) (k : PySem.W.keepIn K (.ref f) = true) : TDef K mg "law" (top 63) ["_law_script"] := ⟨f, _, fun_mk l c k, PySem.W.mg_of X G a, (fun_mk l c k).binds (ps := ["_law_script"]) (fun _ _ _ _ _ _ us hl => match us, hl with | [_], _ => rfl)⟩
theorem mkmAdd {f : Addr} {oc : Value} {od an : Option Addr} {osl : Array (Option Value)} {kV doc pm cdv ct : Value} (a : PySem.W.findIn K (.ref C) "__add__" = some (some (.ref f))) (i : PySem.W.isFn K (.ref f) = true) (l : K.lookup f = some ⟨oc, od, .func (PySem.W.fnOf "__add__" "Exact.__add__" (defArgs (cls 9 1)) (defBody (cls 9 1)) (defScope (cls 9 1)) .none kV doc pm an cdv ct), osl⟩) (c : PySem.W.codeIn K cdv "Exact.__add__" = true) (k : PySem.W.keepIn K (.ref f) = true) : TMeth K C "__add__" "Exact.__add__" (cls 9 1) ["self", "other"] := ⟨f, _, fun_mk l c k, ⟨a, i, k⟩, (fun_mk l c k).binds (ps := ["self", "other"]) (fun _ _ _ _ _ _ us hl => match us, hl with | [_, _], _ => rfl)⟩
theorem mkmMul {f : Addr} {oc : Value} {od an : Option Addr} {osl : Array (Option Value)} {kV doc pm cdv ct : Value} (a : PySem.W.findIn K (.ref C) "__mul__" = some (some (.ref f))) (i : PySem.W.isFn K (.ref f) = true) (l : K.lookup f = some ⟨oc, od, .func (PySem.W.fnOf "__mul__" "Exact.__mul__" (defArgs (cls 9 3)) (defBody (cls 9 3)) (defScope (cls 9 3)) .none kV doc pm an cdv ct), osl⟩) (c : PySem.W.codeIn K cdv "Exact.__mul__" = true) (k : PySem.W.keepIn K (.ref f) = true) : TMeth K C "__mul__" "Exact.__mul__" (cls 9 3) ["self", "other"] := ⟨f, _, fun_mk l c k, ⟨a, i, k⟩, (fun_mk l c k).binds (ps := ["self", "other"]) (fun _ _ _ _ _ _ us hl => match us, hl with | [_, _], _ => rfl)⟩
theorem mkmEq {f : Addr} {oc : Value} {od an : Option Addr} {osl : Array (Option Value)} {kV doc pm cdv ct : Value} (a : PySem.W.findIn K (.ref C) "__eq__" = some (some (.ref f))) (i : PySem.W.isFn K (.ref f) = true) (l : K.lookup f = some ⟨oc, od, .func (PySem.W.fnOf "__eq__" "Exact.__eq__" (defArgs (cls 9 4)) (defBody (cls 9 4)) (defScope (cls 9 4)) .none kV doc pm an cdv ct), osl⟩) (c : PySem.W.codeIn K cdv "Exact.__eq__" = true) (k : PySem.W.keepIn K (.ref f) = true) : TMeth K C "__eq__" "Exact.__eq__" (cls 9 4) ["self", "other"] := ⟨f, _, fun_mk l c k, ⟨a, i, k⟩, (fun_mk l c k).binds (ps := ["self", "other"]) (fun _ _ _ _ _ _ us hl => match us, hl with | [_, _], _ => rfl)⟩
theorem mkmOver {f : Addr} {oc : Value} {od an : Option Addr} {osl : Array (Option Value)} {kV doc pm cdv ct : Value} (a : PySem.W.findIn K (.ref C) "over" = some (some (.ref f))) (i : PySem.W.isFn K (.ref f) = true) (l : K.lookup f = some ⟨oc, od, .func (PySem.W.fnOf "over" "Exact.over" (defArgs (cls 9 5)) (defBody (cls 9 5)) (defScope (cls 9 5)) .none kV doc pm an cdv ct), osl⟩) (c : PySem.W.codeIn K cdv "Exact.over" = true) (k : PySem.W.keepIn K (.ref f) = true) : TMeth K C "over" "Exact.over" (cls 9 5) ["self", "other"] := ⟨f, _, fun_mk l c k, ⟨a, i, k⟩, (fun_mk l c k).binds (ps := ["self", "other"]) (fun _ _ _ _ _ _ us hl => match us, hl with | [_, _], _ => rfl)⟩
theorem mkmSquare {f : Addr} {oc : Value} {od an : Option Addr} {osl : Array (Option Value)} {kV doc pm cdv ct : Value} (a : PySem.W.findIn K (.ref C) "square" = some (some (.ref f))) (i : PySem.W.isFn K (.ref f) = true) (l : K.lookup f = some ⟨oc, od, .func (PySem.W.fnOf "square" "Exact.square" (defArgs (cls 9 8)) (defBody (cls 9 8)) (defScope (cls 9 8)) .none kV doc pm an cdv ct), osl⟩) (c : PySem.W.codeIn K cdv "Exact.square" = true) (k : PySem.W.keepIn K (.ref f) = true) : TMeth K C "square" "Exact.square" (cls 9 8) ["self"] := ⟨f, _, fun_mk l c k, ⟨a, i, k⟩, (fun_mk l c k).binds (ps := ["self"]) (fun _ _ _ _ _ _ us hl => match us, hl with | [_], _ => rfl)⟩
theorem mkmPair {f : Addr} {oc : Value} {od an : Option Addr} {osl : Array (Option Value)} {kV doc pm cdv ct : Value} (a : PySem.W.findIn K (.ref C) "pair" = some (some (.ref f))) (i : PySem.W.isFn K (.ref f) = true) (l : K.lookup f = some ⟨oc, od, .func (PySem.W.fnOf "pair" "Exact.pair" (defArgs (cls 9 9)) (defBody (cls 9 9)) (defScope (cls 9 9)) .none kV doc pm an cdv ct), osl⟩) (c : PySem.W.codeIn K cdv "Exact.pair" = true) (k : PySem.W.keepIn K (.ref f) = true) : TMeth K C "pair" "Exact.pair" (cls 9 9) ["self"] := ⟨f, _, fun_mk l c k, ⟨a, i, k⟩, (fun_mk l c k).binds (ps := ["self"]) (fun _ _ _ _ _ _ us hl => match us, hl with | [_], _ => rfl)⟩
theorem mkiE (X : K.In h) (G : h.Ns mainGlobals mg) {f : Addr} {oc : Value} {od an : Option Addr} {osl : Array (Option Value)} {kV doc pm cdv ct : Value} (g : PySem.W.nsIn K mainGlobals "Exact" = some (some (.ref C))) (mk : PySem.W.makesIn K C = true) (a : PySem.W.findIn K (.ref C) "__init__" = some (some (.ref f))) (i : PySem.W.isFn K (.ref f) = true) (kc : PySem.W.keepIn K (.ref C) = true) (l : K.lookup f = some ⟨oc, od, .func (PySem.W.fnOf "__init__" "Exact.__init__" (defArgs (cls 9 0)) (defBody (cls 9 0)) (defScope (cls 9 0)) .none kV doc pm an cdv ct), osl⟩) (c : PySem.W.codeIn K cdv "Exact.__init__" = true) (k : PySem.W.keepIn K (.ref f) = true) : TInit K mg "Exact" C "Exact.__init__" (cls 9 0) ["self", "top", "bottom"] := ⟨f, _, ⟨mk, a, i, kc⟩, fun_mk l c k, PySem.W.mg_of X G g, (fun_mk l c k).binds (ps := ["self", "top", "bottom"]) (fun _ _ _ _ _ _ us hl => match us, hl with | [_, _, _], _ => rfl)⟩
theorem mkiW (X : K.In h) (G : h.Ns mainGlobals mg) {f : Addr} {oc : Value} {od an : Option Addr} {osl : Array (Option Value)} {kV doc pm cdv ct : Value} (g : PySem.W.nsIn K mainGlobals "Web" = some (some (.ref C))) (mk : PySem.W.makesIn K C = true) (a : PySem.W.findIn K (.ref C) "__init__" = some (some (.ref f))) (i : PySem.W.isFn K (.ref f) = true) (kc : PySem.W.keepIn K (.ref C) = true) (l : K.lookup f = some ⟨oc, od, .func (PySem.W.fnOf "__init__" "Web.__init__" (defArgs (cls 19 0)) (defBody (cls 19 0)) (defScope (cls 19 0)) .none kV doc pm an cdv ct), osl⟩) (c : PySem.W.codeIn K cdv "Web.__init__" = true) (k : PySem.W.keepIn K (.ref f) = true) : TInit K mg "Web" C "Web.__init__" (cls 19 0) ["self", "wares", "stalls"] := ⟨f, _, ⟨mk, a, i, kc⟩, fun_mk l c k, PySem.W.mg_of X G g, (fun_mk l c k).binds (ps := ["self", "wares", "stalls"]) (fun _ _ _ _ _ _ us hl => match us, hl with | [_, _, _], _ => rfl)⟩
theorem mkiT {f : Addr} {oc : Value} {od an : Option Addr} {osl : Array (Option Value)} {kV doc pm cdv ct : Value} (a : PySem.W.findIn K (.ref C) "__init__" = some (some (.ref f))) (t : PySem.W.typeIn K (.ref f) = some (.type "function")) (l : K.lookup f = some ⟨oc, od, .func (PySem.W.fnOf "__init__" "TooMany.__init__" (defArgs (cls 5 0)) (defBody (cls 5 0)) (defScope (cls 5 0)) .none kV doc pm an cdv ct), osl⟩) (c : PySem.W.codeIn K cdv "TooMany.__init__" = true) (k : PySem.W.keepIn K (.ref f) = true) :
    ∃ (f : Addr) (fd : FuncData), PySem.W.findIn K (.ref C) "__init__" = some (some (.ref f)) ∧ PySem.W.typeIn K (.ref f) = some (.type "function") ∧ L2.Fun K "__init__" "TooMany.__init__" (cls 5 0) f fd ∧ Binds K fd ["self", "limit"] [] := ⟨f, _, a, t, fun_mk l c k, (fun_mk l c k).binds (ps := ["self", "limit"]) (fun _ _ _ _ _ _ us hl => match us, hl with | [_, _], _ => rfl)⟩
theorem mkLaw {f : Addr} {oc : Value} {od an : Option Addr} {osl : Array (Option Value)} {kV doc pm cdv ct : Value} {fa : Addr} (X : K.In h) (G : h.Ns mainGlobals mg) (hfa : mg "law" = some (.ref fa)) (a : PySem.W.nsIn K mainGlobals "law" = some (some (.ref f))) (l : K.lookup f = some ⟨oc, od, .func (PySem.W.fnOf "law" "law" (defArgs (top 63)) (defBody (top 63)) (defScope (top 63)) .none kV doc pm an cdv ct), osl⟩) (c : PySem.W.codeIn K cdv "law" = true) (k : PySem.W.keepIn K (.ref f) = true) :
    ∃ fd : FuncData, L2.Fun K "law" "law" (top 63) fa fd ∧ ∀ (s : Shared) (u : Value), BindsTo s fd ⟨[u], []⟩ [("_law_script", u)] := by
  cases hfa.symm.trans (PySem.W.mg_of X G a)
  exact ⟨_, fun_mk l c k, fun s u => .of_eq rfl⟩
theorem mkNo {x : Str} (a : PySem.W.findIn K (.ref C) x = some none) : NoAttr K C x := a
theorem mkKit : PySem.W.kitOne K (.ref C) (.ref C) = some true := if_pos (beq_iff_eq.mpr rfl)
theorem mkCon {x : Str} {n : Int} {t : Nat} (X : K.In h) (G : h.Ns mainGlobals mg) (a : PySem.W.nsIn K mainGlobals x = some (some (.int n t))) : ∃ t, mg x = some (.int n t) := ⟨t, PySem.W.mg_of X G a⟩
theorem mkOex {nm q : Str} {N : Addr} {bs : List Value} {sn : List Str} {sub : List Value} {ab : Bool} {col : Option Bool} {dd : Option Addr} {m0 m1 m2 m3 m5 : Option Value}
    (x : K.lookup C = some (excClassObj nm q C N bs [.ref S, .type "ValueError", .type "Exception", .type "BaseException", .type "object"] true sn sub ab col dd m0 m1 m2 m3 m5 "ValueError.__new__"))
    (sa : PySem.W.findIn K (.ref C) "__setattr__" = some (some (.builtin "object.__setattr__"))) (eC : PySem.W.subIn K (.ref C) (.type "BaseException") = some true) (tC : PySem.W.typeIn K (.ref C) = some (.type "type")) (kC : PySem.W.keepIn K (.ref C) = true) : OexC K C :=
  ⟨⟨nm, q, N, bs, _, sn, sub, ab, col, dd, m0, m1, m2, m3, m5, x, rfl⟩, sa, eC, tC, kC⟩
/-- an error of the class is what «except» with the class names -/
theorem exm_own (h1 : PySem.W.subIn K (.ref S) (.type "BaseException") = some true) (h2 : PySem.W.isClsIn K S = true) (h3 : PySem.W.typeIn K (.ref S) = some (.type "type")) (h4 : PySem.W.subIn K (.ref S) (.ref S) = some true) : PySem.W.exmOne K (.ref S) (.ref S) = some true := by
  have e1 : (PySem.W.subIn K (.ref S) (.type "BaseException") == some true) = true := by rw [h1] <;> rfl
  have e2 : ((PySem.W.clsIn K S).isSome && PySem.W.typeIn K (.ref S) == some (.type "type")) = true := by
    have h2' : (PySem.W.clsIn K S).isSome = true := h2
    rw [h2', h3] <;> rfl
  show (if (PySem.W.subIn K (.ref S) (.type "BaseException") == some true) = true then (if ((PySem.W.clsIn K S).isSome && PySem.W.typeIn K (.ref S) == some (.type "type")) = true then PySem.W.subIn K (.ref S) (.ref S) else none) else none) = some true
  rw [if_pos e1, if_pos e2]
  exact h4
theorem all_of {cE cW cT fa : Addr} (T : Txt K mg cE cW) (TT : TxtT K mg cT) (L : ∃ fd : FuncData, L2.Fun K "law" "law" (top 63) fa fd ∧ ∀ (s : Shared) (u : Value), BindsTo s fd ⟨[u], []⟩ [("_law_script", u)]) :
    ∃ (cE cW cT : Addr) (fd : FuncData), Txt K mg cE cW ∧ TxtT K mg cT ∧ L2.Fun K "law" "law" (top 63) fa fd ∧ ∀ (s : Shared) (u : Value), BindsTo s fd ⟨[u], []⟩ [("_law_script", u)] := by
  obtain ⟨fd, F, hb⟩ := L
  exact ⟨cE, cW, cT, fd, T, TT, F, hb⟩
end K43
set_option Elab.async false
open PySem PySem.W PyProof.Rows
set_option maxRecDepth 100000 in
set_option maxHeartbeats 0 in
theorem PySem.Challenge.cw_rootstalls_k43_whole_rings_listed_holds : PySem.Challenge.rw_rootstalls_k43_whole_rings_listed.Holds := by
  w_on; o_law; k_head; (case hw => w_witness2)
  k_fill
  refine K43.law_walk (l := PySem.Challenge.rw_rootstalls_k43_whole_rings_listed) rfl rfl (fun w h Y => PySem.W.kIn_of Y) ?F
  case F =>
    intro w mg fa h KX G hmg
    refine' K43.all_of ?T ?TT ?L
    case T =>
      refine' { b_len := ?b_len, b_isi := ?b_isi, b_int := ?b_int, b_bool := ?b_bool, b_abs := ?b_abs, b_tuple := ?b_tuple, b_list := ?b_list, b_all := ?b_all, b_any := ?b_any, b_sum := ?b_sum, b_min := ?b_min, b_sorted := ?b_sorted, b_range := ?b_range, b_enum := ?b_enum, b_zip := ?b_zip, b_repr := ?b_repr, clE := ?clE, nTop := ?nTop, nBot := ?nBot, iE := ?iE, mAdd := ?mAdd, mMul := ?mMul, mEq := ?mEq, mOver := ?mOver, mSquare := ?mSquare, mPair := ?mPair, selfE := ?selfE, neE := ?neE, mroE := ?mroE, clsE := ?clsE, getC := ?getC, takC := ?takC, kitE := ?kitE, clW := ?clW, nWar := ?nWar, nSta := ?nSta, iW := ?iW, cMW := ?cMW, cMS := ?cMS, cMR := ?cMR, d7 := ?d7, d8 := ?d8, d10 := ?d10, d12 := ?d12, d13 := ?d13, d17 := ?d17, d18 := ?d18, d20 := ?d20, d21 := ?d21, d22 := ?d22, d23 := ?d23, d24 := ?d24, d25 := ?d25, d27 := ?d27, d28 := ?d28, d29 := ?d29, d30 := ?d30, d31 := ?d31, d32 := ?d32, d33 := ?d33, d36 := ?d36, d37 := ?d37, d38 := ?d38, d39 := ?d39, d40 := ?d40, d42 := ?d42, d43 := ?d43, d44 := ?d44, d45 := ?d45, d48 := ?d48, d49 := ?d49, d50 := ?d50, d51 := ?d51, d52 := ?d52, d53 := ?d53, d55 := ?d55, d56 := ?d56, d57 := ?d57, d58 := ?d58, d59 := ?d59, d60 := ?d60, d61 := ?d61, d62 := ?d62, d63 := ?d63 }
      case iE => (refine' K43.mkiE KX G ?g ?mk ?a ?i ?kc ?l ?c ?k; (case g => k_is); (case mk => k_is); (case a => k_is); (case i => k_is); (case kc => k_is); (case l => k_is); (case c => k_is); (case k => k_is))
      case iW => (refine' K43.mkiW KX G ?g ?mk ?a ?i ?kc ?l ?c ?k; (case g => k_is); (case mk => k_is); (case a => k_is); (case i => k_is); (case kc => k_is); (case l => k_is); (case c => k_is); (case k => k_is))
      case b_len => (refine' PySem.W.mg_none_of KX G ?a; (case a => k_is))
      case b_isi => (refine' PySem.W.mg_none_of KX G ?a; (case a => k_is))
      case b_int => (refine' PySem.W.mg_none_of KX G ?a; (case a => k_is))
      case b_bool => (refine' PySem.W.mg_none_of KX G ?a; (case a => k_is))
      case b_abs => (refine' PySem.W.mg_none_of KX G ?a; (case a => k_is))
      case b_tuple => (refine' PySem.W.mg_none_of KX G ?a; (case a => k_is))
      case b_list => (refine' PySem.W.mg_none_of KX G ?a; (case a => k_is))
      case b_all => (refine' PySem.W.mg_none_of KX G ?a; (case a => k_is))
      case b_any => (refine' PySem.W.mg_none_of KX G ?a; (case a => k_is))
      case b_sum => (refine' PySem.W.mg_none_of KX G ?a; (case a => k_is))
      case b_min => (refine' PySem.W.mg_none_of KX G ?a; (case a => k_is))
      case b_sorted => (refine' PySem.W.mg_none_of KX G ?a; (case a => k_is))
      case b_range => (refine' PySem.W.mg_none_of KX G ?a; (case a => k_is))
      case b_enum => (refine' PySem.W.mg_none_of KX G ?a; (case a => k_is))
      case b_zip => (refine' PySem.W.mg_none_of KX G ?a; (case a => k_is))
      case b_repr => (refine' PySem.W.mg_none_of KX G ?a; (case a => k_is))
      case clE => (refine' ⟨?a, ?b, ?c, ?d⟩; (case a => k_is); (case b => k_is); (case c => k_is); (case d => k_is))
      case clW => (refine' ⟨?a, ?b, ?c, ?d⟩; (case a => k_is); (case b => k_is); (case c => k_is); (case d => k_is))
      case mAdd => (refine' K43.mkmAdd ?a ?i ?l ?c ?k; (case a => k_is); (case i => k_is); (case l => k_is); (case c => k_is); (case k => k_is))
      case mMul => (refine' K43.mkmMul ?a ?i ?l ?c ?k; (case a => k_is); (case i => k_is); (case l => k_is); (case c => k_is); (case k => k_is))
      case mEq => (refine' K43.mkmEq ?a ?i ?l ?c ?k; (case a => k_is); (case i => k_is); (case l => k_is); (case c => k_is); (case k => k_is))
      case mOver => (refine' K43.mkmOver ?a ?i ?l ?c ?k; (case a => k_is); (case i => k_is); (case l => k_is); (case c => k_is); (case k => k_is))
      case mSquare => (refine' K43.mkmSquare ?a ?i ?l ?c ?k; (case a => k_is); (case i => k_is); (case l => k_is); (case c => k_is); (case k => k_is))
      case mPair => (refine' K43.mkmPair ?a ?i ?l ?c ?k; (case a => k_is); (case i => k_is); (case l => k_is); (case c => k_is); (case k => k_is))
      case nTop => (refine' K43.mkNo ?a; (case a => k_is))
      case nBot => (refine' K43.mkNo ?a; (case a => k_is))
      case nWar => (refine' K43.mkNo ?a; (case a => k_is))
      case nSta => (refine' K43.mkNo ?a; (case a => k_is))
      case selfE => k_is
      case neE => k_is
      case mroE => k_is
      case clsE => k_is
      case getC => k_is
      case takC => k_is
      case kitE => (exact K43.mkKit)
      case cMW => (refine' K43.mkCon KX G ?a; (case a => k_is))
      case cMS => (refine' K43.mkCon KX G ?a; (case a => k_is))
      case cMR => (refine' K43.mkCon KX G ?a; (case a => k_is))
      case d7 => (refine' K43.mk7 KX G ?a ?l ?c ?k; (case a => k_is); (case l => k_is); (case c => k_is); (case k => k_is))
      case d8 => (refine' K43.mk8 KX G ?a ?l ?c ?k; (case a => k_is); (case l => k_is); (case c => k_is); (case k => k_is))
      case d10 => (refine' K43.mk10 KX G ?a ?l ?c ?k; (case a => k_is); (case l => k_is); (case c => k_is); (case k => k_is))
      case d12 => (refine' K43.mk12 KX G ?a ?l ?c ?k; (case a => k_is); (case l => k_is); (case c => k_is); (case k => k_is))
      case d13 => (refine' K43.mk13 KX G ?a ?l ?c ?k; (case a => k_is); (case l => k_is); (case c => k_is); (case k => k_is))
      case d17 => (refine' K43.mk17 KX G ?a ?l ?c ?k; (case a => k_is); (case l => k_is); (case c => k_is); (case k => k_is))
      case d18 => (refine' K43.mk18 KX G ?a ?l ?c ?k; (case a => k_is); (case l => k_is); (case c => k_is); (case k => k_is))
      case d20 => (refine' K43.mk20 KX G ?a ?l ?c ?k; (case a => k_is); (case l => k_is); (case c => k_is); (case k => k_is))
      case d21 => (refine' K43.mk21 KX G ?a ?l ?c ?k; (case a => k_is); (case l => k_is); (case c => k_is); (case k => k_is))
      case d22 => (refine' K43.mk22 KX G ?a ?l ?c ?k; (case a => k_is); (case l => k_is); (case c => k_is); (case k => k_is))
      case d23 => (refine' K43.mk23 KX G ?a ?l ?c ?k; (case a => k_is); (case l => k_is); (case c => k_is); (case k => k_is))
      case d24 => (refine' K43.mk24 KX G ?a ?l ?c ?k; (case a => k_is); (case l => k_is); (case c => k_is); (case k => k_is))
      case d25 => (refine' K43.mk25 KX G ?a ?l ?c ?k; (case a => k_is); (case l => k_is); (case c => k_is); (case k => k_is))
      case d27 => (refine' K43.mk27 KX G ?a ?l ?c ?k; (case a => k_is); (case l => k_is); (case c => k_is); (case k => k_is))
      case d28 => (refine' K43.mk28 KX G ?a ?l ?c ?k; (case a => k_is); (case l => k_is); (case c => k_is); (case k => k_is))
      case d29 => (refine' K43.mk29 KX G ?a ?l ?c ?k; (case a => k_is); (case l => k_is); (case c => k_is); (case k => k_is))
      case d30 => (refine' K43.mk30 KX G ?a ?l ?c ?k; (case a => k_is); (case l => k_is); (case c => k_is); (case k => k_is))
      case d31 => (refine' K43.mk31 KX G ?a ?l ?c ?k; (case a => k_is); (case l => k_is); (case c => k_is); (case k => k_is))
      case d32 => (refine' K43.mk32 KX G ?a ?l ?c ?k; (case a => k_is); (case l => k_is); (case c => k_is); (case k => k_is))
      case d33 => (refine' K43.mk33 KX G ?a ?l ?c ?k; (case a => k_is); (case l => k_is); (case c => k_is); (case k => k_is))
      case d36 => (refine' K43.mk36 KX G ?a ?l ?c ?k; (case a => k_is); (case l => k_is); (case c => k_is); (case k => k_is))
      case d37 => (refine' K43.mk37 KX G ?a ?l ?c ?k; (case a => k_is); (case l => k_is); (case c => k_is); (case k => k_is))
      case d38 => (refine' K43.mk38 KX G ?a ?l ?c ?k; (case a => k_is); (case l => k_is); (case c => k_is); (case k => k_is))
      case d39 => (refine' K43.mk39 KX G ?a ?l ?c ?k; (case a => k_is); (case l => k_is); (case c => k_is); (case k => k_is))
      case d40 => (refine' K43.mk40 KX G ?a ?l ?c ?k; (case a => k_is); (case l => k_is); (case c => k_is); (case k => k_is))
      case d42 => (refine' K43.mk42 KX G ?a ?l ?c ?k; (case a => k_is); (case l => k_is); (case c => k_is); (case k => k_is))
      case d43 => (refine' K43.mk43 KX G ?a ?l ?c ?k; (case a => k_is); (case l => k_is); (case c => k_is); (case k => k_is))
      case d44 => (refine' K43.mk44 KX G ?a ?l ?c ?k; (case a => k_is); (case l => k_is); (case c => k_is); (case k => k_is))
      case d45 => (refine' K43.mk45 KX G ?a ?l ?c ?k; (case a => k_is); (case l => k_is); (case c => k_is); (case k => k_is))
      case d48 => (refine' K43.mk48 KX G ?a ?l ?c ?k; (case a => k_is); (case l => k_is); (case c => k_is); (case k => k_is))
      case d49 => (refine' K43.mk49 KX G ?a ?l ?c ?k; (case a => k_is); (case l => k_is); (case c => k_is); (case k => k_is))
      case d50 => (refine' K43.mk50 KX G ?a ?l ?c ?k; (case a => k_is); (case l => k_is); (case c => k_is); (case k => k_is))
      case d51 => (refine' K43.mk51 KX G ?a ?l ?c ?k; (case a => k_is); (case l => k_is); (case c => k_is); (case k => k_is))
      case d52 => (refine' K43.mk52 KX G ?a ?l ?c ?k; (case a => k_is); (case l => k_is); (case c => k_is); (case k => k_is))
      case d53 => (refine' K43.mk53 KX G ?a ?l ?c ?k; (case a => k_is); (case l => k_is); (case c => k_is); (case k => k_is))
      case d55 => (refine' K43.mk55 KX G ?a ?l ?c ?k; (case a => k_is); (case l => k_is); (case c => k_is); (case k => k_is))
      case d56 => (refine' K43.mk56 KX G ?a ?l ?c ?k; (case a => k_is); (case l => k_is); (case c => k_is); (case k => k_is))
      case d57 => (refine' K43.mk57 KX G ?a ?l ?c ?k; (case a => k_is); (case l => k_is); (case c => k_is); (case k => k_is))
      case d58 => (refine' K43.mk58 KX G ?a ?l ?c ?k; (case a => k_is); (case l => k_is); (case c => k_is); (case k => k_is))
      case d59 => (refine' K43.mk59 KX G ?a ?l ?c ?k; (case a => k_is); (case l => k_is); (case c => k_is); (case k => k_is))
      case d60 => (refine' K43.mk60 KX G ?a ?l ?c ?k; (case a => k_is); (case l => k_is); (case c => k_is); (case k => k_is))
      case d61 => (refine' K43.mk61 KX G ?a ?l ?c ?k; (case a => k_is); (case l => k_is); (case c => k_is); (case k => k_is))
      case d62 => (refine' K43.mk62 KX G ?a ?l ?c ?k; (case a => k_is); (case l => k_is); (case c => k_is); (case k => k_is))
      case d63 => (refine' K43.mk63 KX G ?a ?l ?c ?k; (case a => k_is); (case l => k_is); (case c => k_is); (case k => k_is))
    case TT =>
      refine' { mgT := ?mgT, oex := ?oex, xf := ?xf, iT := ?iT, nLim := ?nLim, exm := ?exm }
      case mgT => (refine' PySem.W.mg_of KX G ?a; (case a => k_is))
      case oex => (refine' K43.mkOex ?x ?sa ?eC ?tC ?kC; (case x => k_is); (case sa => k_is); (case eC => k_is); (case tC => k_is); (case kC => k_is))
      case xf => (refine' ⟨?ga, ?gg, ?eC, ?hC⟩; (case ga => k_is); (case gg => k_is); (case eC => k_is); (case hC => k_is))
      case iT => (refine' K43.mkiT ?a ?t ?l ?c ?k; (case a => k_is); (case t => k_is); (case l => k_is); (case c => k_is); (case k => k_is))
      case nLim => k_is
      case exm => (refine' K43.exm_own ?a ?b ?c ?d; (case a => k_is); (case b => k_is); (case c => k_is); (case d => first | rfl | k_is))
    case L => (refine' K43.mkLaw KX G hmg ?a ?l ?c ?k; (case a => k_is); (case l => k_is); (case c => k_is); (case k => k_is))
