import PyProof.Rows.All
import Wide.All
import OpenK.AllK
import Wide.FinOn
import KE.KStateDown
import HandS.Words
import HandS.Head0
import HandS.Head1
import HandS.Head2
import HandS.HeadEnd
import HandS.HeadWalk
import KE.KCallOwn
import KE.KOpsOwn
import PyProof.ReprRoads
import HandS.ForMost
import HandS.Sort
import HandS.Codes
import KE.KSuper
import KE.KSuperObj
import KE.KExcSuper
import HandS.ExcInit
import HandS.ExcSuper
import HandS.TryMany
import HandS.ExcIs
import HandS.WordsExc
import HandS.WordsList
import HandS.Defaults
import HandS.Evl
import HandS.Deep
import HandS.Wide
import HandS.NoneIn
import HandS.Conv
import HandS.Iter
import HandS.DictComp
import HandS.FStr
import HandS.ExcField
import HandS.Lambda
import HandS.HeadHook1
import HandS.HeadHook2
import HandS.HeadHook4
import HandS.ExcBuiltin
import HandS.EndTab
import PySem.Challenge.RW_foldplans_k28_whole_parts_of_tables
set_option Elab.async false
set_option linter.all false
set_option maxRecDepth 100000
set_option maxHeartbeats 0
section
namespace K28
open PySem PySem.Spec PyProof.Rows L2
section
variable {X : Cx}
/-! ### range(n) as a value; not in a range -/
theorem cr_range_n : CallR X (.type "range") (fun vs H Q => ∃ j, vs = [V.int j] ∧ ∀ p, H p = none → Q (.ref p) (upd H p (.rng 0 j))) := by
  intro pins s σ H vs us Q I r h
  obtain ⟨j, rfl, q⟩ := h
  obtain ⟨u1, rfl, rj⟩ := vals1 r
  obtain ⟨u, rfl⟩ := rj
  refine call_range_1 ⟨.ref s.heap.objs.size, upd H s.heap.objs.size (.rng 0 j), I.laid (t' := s.toks + 2) (fun b o e => Heap.get?_push_of_some _ e) (Nat.le_refl _) ?_, rfl, q _ (I.hok.fresh (Nat.le_refl _))⟩
  exact ⟨_, _, _, Heap.get?_push_size _ rfl⟩
theorem op_out_rng : OpR X (compareOp .NotIn) (fun x y H Q => ∃ i a lo hi, x = V.int i ∧ y = V.ref a ∧ H a = some (.rng lo hi) ∧ Q (.bl (!decide (lo ≤ i ∧ i < hi))) H) := by
  intro pins s σ H x y v u Q I rx ry h
  obtain ⟨i, a, lo, hi, rfl, rfl, ha, q⟩ := h
  obtain ⟨k, rfl⟩ := rx
  obtain rfl : u = Value.ref a := ry
  obtain ⟨t1, t2, t3, ho⟩ := I.hok a _ ha
  show wpAny _ _ (do return Value.bool (!(← contains (Value.ref a) (Value.int i k)))) _ _ s
  refine wpAny_bind (wpAny_contains_slot (T := "range") ⟨_, ho, rfl⟩ F.slot_range_contains (call_meets F.slot_range_contains ⟨_, ho, rfl⟩ F.entry_range_contains (F.args_range_contains_2 _ _) (q_contains a lo hi i t1 t2 t3 k)
    ⟨ho, wpAny_truthy_bool (wpAny_pure ⟨.bl _, H, I, rfl, ?_⟩)⟩))
  rw [place1]
  exact q
end
end K28
end
section
namespace K28
open PySem PySem.Spec PyProof.Rows L2
section
variable {X : Cx}
/-! ### a text times 0 or 1 -/
theorem op_mul_txt : OpR X (binaryOp .Mult) (fun x y H Q => ∃ (z : Str) (i : Int), x = .str z ∧ y = .int i ∧ (i = 0 ∨ i = 1) ∧ z.length ≤ 1000 ∧ Q (.str (if i = 1 then z else Str.empty)) H) := by
  intro pins s σ H x y v u Q I rx ry h
  obtain ⟨z, i, rfl, rfl, hi, hz, q⟩ := h
  obtain ⟨t1, rfl⟩ := rx
  obtain ⟨t2, rfl⟩ := ry
  refine SB.mul (mulOk_of 1000 1 hz (by omega) (by omega) (by decide) (by decide)) fun t' k => ?_
  refine ⟨.str (Txt.mul z i), H, I.tok k, ⟨_, rfl⟩, ?_⟩
  have e : Txt.mul z i = if i = 1 then z else Str.empty := by
    unfold Txt.mul
    rcases hi with rfl | rfl <;> rfl
  rw [e]
  exact q
/-! ### text[::-1] -/
def revS (z : Str) : Str := ⟨z.cps.toList.reverse.toArray⟩
theorem rev_made (z : Str) (u : Tok) : Txt.sliceBy z none none (-1, u) = revS z := by
  have h := step_rev_list z u
  generalize Txt.sliceBy z none none (-1, u) = y at h
  obtain ⟨⟨l⟩⟩ := y
  have h' : l = (List.range z.length).map fun k => z.cps.getD (z.length - 1 - k) 0 := h
  subst h'
  unfold revS
  congr 2
  refine List.ext_getElem (by simp [Str.length]) fun i h1 h2 => ?_
  have hi : i < z.cps.size := by simpa [Str.length] using h1
  simp [Str.length, Array.getD]
  have hi2 : z.cps.size - 1 - i < z.cps.size := by omega
  rw [dif_pos hi2]
theorem revS_len (z : Str) : (revS z).length = z.length := by
  show z.cps.toList.reverse.toArray.size = z.cps.size
  simp
def tRevS (te : TE) : TE := fun σ H Q => te σ H fun x H1 => ∃ z, x = .str z ∧ z.length ≤ 1000 ∧ Q (.str (revS z)) H1
theorem pe_revS {e : Expr} {te : TE} {k : Nat} {p1 p2 p3 pos : Pos} (he : PE X e te) : PE X (.Subscript e (.Slice none none (some (.UnaryOp .USub (.Constant (.int 1) k p1) p2)) p3) pos) (tRevS te) := by
  refine ⟨fun pins s σ H Q I h => ?_⟩
  refine Subscript_ (thn (he.run pins s σ H _ I h) fun v s1 ⟨x, H1, I1, r1, z, ex, hz, q⟩ => ?_)
  subst ex
  obtain ⟨t, rfl⟩ := r1
  have step : PO X (some (.UnaryOp .USub (.Constant (.int 1) k p1) p2)) (tPart (tUn (rU fun i => .int (-i)) (tC (.int 1)))) := po_some (pe_un un_neg pe_int)
  refine wpAny_Slice (thn (po_none.run pins s1 σ H1 (fun o H2 => o = none ∧ H2 = H1) I1 ⟨rfl, rfl⟩) fun vl s2 ⟨l, H2, I2, pl, el, e2⟩ => ?_)
  subst el e2
  refine thn (po_none.run pins s2 σ H2 (fun o H3 => o = none ∧ H3 = H2) I2 ⟨rfl, rfl⟩) fun vu s3 ⟨u, H3, I3, pu, eu, e3⟩ => ?_
  subst eu e3
  refine thn (step.run pins s3 σ H3 (fun o H4 => o = some (-1) ∧ H4 = H3) I3 ⟨1, rfl, -1, rfl, rfl, rfl⟩) fun vs s4 ⟨o, H4, I4, ps, eo, e4⟩ => ?_
  subst eo e4
  obtain ⟨a1, rfl, ha1⟩ := IsPart.raw pl
  obtain ⟨a2, rfl, ha2⟩ := IsPart.raw pu
  obtain ⟨a3, rfl, ha3⟩ := IsPart.raw ps
  cases a1 with
  | some a => cases ha1
  | none =>
  cases a2 with
  | some a => cases ha2
  | none =>
  cases a3 with
  | none => cases ha3
  | some a3 =>
  obtain ⟨i3, u3⟩ := a3
  have e3 : i3 = -1 := Option.some.inj ha3
  subst e3
  have I5 : Inv X pins σ H4 { s4 with heap := s4.heap.push { cls := .type "slice", data := .fields #[partValue none, partValue none, partValue (some (-1, u3))] } } := I4.kept (t' := s4.toks) fun b ob q => Heap.get?_push_of_some _ q
  refine tail_any (T := "str") (ops := [.str z t, .ref s4.heap.objs.size]) (typeIs_str _ _ _) (F.slot_str_getitem.lookup) ?_ (by with_unfolding_all rfl)
  refine wpAny_getItem_str_slice (l := none) (u := none) (st := some (-1, u3)) ⟨_, Heap.get?_push_size _ rfl, rfl, rfl⟩ rfl ?_
  have hl : (Txt.sliceBy z none none (-1, u3)).length ≤ sizeLine := by
    rw [rev_made, revS_len, sizeLine_eq]
    omega
  refine post_val_or_str ⟨hl, fun t' c => ?_⟩
  have q2 : Q (.str (Txt.sliceBy z none none (-1, u3))) H4 := by
    rw [rev_made]
    exact q
  exact ⟨.str _, H4, I5.tok _, ⟨_, rfl⟩, q2⟩
end
end K28
end
section
namespace K28
open PySem PySem.Spec PyProof.Rows L2
section
variable {X : Cx} {CX : CXT} {k : Nat} {g C : Addr} {fd : FuncData} {ps : List Str} {sp : Sp} {E : XK}
/-! ### an own object's __getitem__, __setitem__, __str__ -/
theorem run_at_fn {pins : List (Addr × Obj)} {σ : L2.St} {H : Hp} {s : Shared} {Q : VK} {us : List Value} {vs : List V} {A : Around} (F : FnOk X.prog X.w X.K X.mg X.base CX k g fd ps sp) (hr : Room k A) (e0 : Env0 X.prog X.w X.K X.mg X.base A X.stack s H)
    (hb : Binds X.K fd ps []) (hx : Passes CX X E) (I : Inv X pins σ H s) (r : Vals vs us) (h : sp vs H Q E) : wpAny (model X.prog X.w) A (call (.ref g) us) (EP X pins σ Q) X.xe s := by
  have hl : (us ++ []).length = ps.length := by
    rw [List.append_nil, ← r.length]
    exact F.len _ _ _ _ h
  have b0 := hb s us I.kIn hl
  rw [List.append_nil] at b0
  refine wpAny_call (codeAny_mono (F.run A X.stack s H ⟨us, []⟩ us vs Q E hr e0 b0 r h) fun res s' hq => ?_)
  cases res with
  | error e => exact hx pins σ H s e s' I hq
  | ok fl =>
    cases fl with
    | ret u => exact I.after hq
    | next => exact False.elim hq
    | brk => exact False.elim hq
    | cont => exact False.elim hq
theorem inst_of {pins : List (Addr × Obj)} {σ : L2.St} {H : Hp} {s : Shared} {a dx : Addr} {fs : List (Str × V)} (I : Inv X pins σ H s) (e : H a = some (.ins C dx fs)) : ∃ od, PySem.W.InstAt s.heap a (PySem.W.instObj C dx) C (some od) := by
  obtain ⟨mA, O, _⟩ := ins_get I.hok e
  obtain ⟨od, J, _⟩ := O.look
  exact ⟨od, J⟩
def tOwnGet (C : Addr) (sp : Sp) (E : XK) (ta tb : TE) : TE := fun σ H Q => ta σ H fun x H1 => tb σ H1 fun y H2 => ∃ a dx fs, x = .ref a ∧ H2 a = some (.ins C dx fs) ∧ sp [x, y] H2 Q E
theorem pe_ownget {o i : Expr} {ta tb : TE} {pos : Pos} (ho : PE X o ta) (hi : PE X i tb) (at_ : PySem.W.findIn X.K (.ref C) "__getitem__" = some (some (.ref g))) (hf : PySem.W.fnIn X.K g = true) (hfn : PySem.W.isFn X.K (.ref g) = true)
    (F : FnOk X.prog X.w X.K X.mg X.base CX k g fd ps sp) (hb : Binds X.K fd ps []) (hr : Room (k + 1) X.A) (hx : Passes CX X E)
    (hsl : ∀ o' i', subscripted i true o' i' = runValue (.builtin "lifetime.subscript" ⟨[o', i'], []⟩) := by intro _ _; with_unfolding_all rfl) : PE X (.Subscript o i pos) (tOwnGet C sp E ta tb) := by
  refine ⟨fun pins s σ H Q I h => ?_⟩
  refine Subscript_ (thn (ho.run pins s σ H _ I h) fun v s1 ⟨x, H1, I1, r1, q1⟩ => thn (hi.run pins s1 σ H1 _ I1 q1) fun u s2 ⟨y, H2, I2, r2, a, dx, fs, ex, ea, q⟩ => ?_)
  subst ex
  obtain rfl : v = Value.ref a := r1
  obtain ⟨od, J⟩ := inst_of I2 ea
  obtain ⟨m, hF⟩ := I2.fr
  exact PySem.W.sub_K hF I2.ok.mod.kin J at_ hf hfn (run_at_fn (us := [.ref a, u]) (vs := [.ref a, y]) F hr.in1 I2.env0.in1 hb hx I2 (.cons rfl (.cons r2 .nil)) q) (hsl _ _)
def rOwnSet (C : Addr) (sp : Sp) (E : XK) : TSet := fun o i v H Q => ∃ a dx fs, o = .ref a ∧ H a = some (.ins C dx fs) ∧ sp [o, i, v] H (fun _ H' => Q H') E
theorem set_own (at_ : PySem.W.findIn X.K (.ref C) "__setitem__" = some (some (.ref g))) (hq : PySem.W.noSeq X.K C = true) (hfn : PySem.W.isFn X.K (.ref g) = true)
    (F : FnOk X.prog X.w X.K X.mg X.base CX k g fd ps sp) (hb : Binds X.K fd ps []) (hr : Room k X.A) (hx : Passes CX X E) : PSet X (rOwnSet C sp E) := by
  intro pins s σ H o i v ov iv u Q I ro ri rv h
  obtain ⟨a, dx, fs, rfl, ea, q⟩ := h
  obtain rfl : ov = Value.ref a := ro
  obtain ⟨od, J⟩ := inst_of I ea
  obtain ⟨m, hF⟩ := I.fr
  refine PySem.W.ksp_setItem hF I.ok.mod.kin J hq at_ hfn ?_
  exact thn (run_at_fn (us := [.ref a, iv, u]) (vs := [.ref a, i, v]) F hr I.env0 hb hx I (.cons rfl (.cons ri (.cons rv .nil))) q) fun _ s1 ⟨z, H1, I1, _, q1⟩ => ⟨H1, I1, q1⟩
def rOwnStr (C : Addr) (sp : Sp) (E : XK) : List V → Hp → VK → Prop := fun xs H Q => ∃ a dx fs, xs = [.ref a] ∧ H a = some (.ins C dx fs) ∧ sp [.ref a] H (fun v H' => ∃ z, v = .str z ∧ Q (.str z) H') E
theorem call_ownstr (at_ : PySem.W.findIn X.K (.ref C) "__str__" = some (some (.ref g))) (hfn : PySem.W.isFn X.K (.ref g) = true)
    (F : FnOk X.prog X.w X.K X.mg X.base CX k g fd ps sp) (hb : Binds X.K fd ps []) (hr : Room (k + 2) X.A) (hx : Passes CX X E) : CallR X (.type "str") (rOwnStr C sp E) := by
  intro pins s σ H xs us Q I r h
  obtain ⟨a, dx, fs, rfl, ea, q⟩ := h
  obtain ⟨u, rfl, ru⟩ := r.one
  obtain rfl : u = Value.ref a := ru
  obtain ⟨od, J⟩ := inst_of I ea
  have hr2 : Room k X.A.in1.in1 := (show Room (k + 1) X.A.in1 from Room.in1 hr).in1
  refine PySem.W.kso_call hr2.units0 I.kIn J at_ hfn ?_
  refine thn (run_at_fn (us := [.ref a]) (vs := [.ref a]) F hr2 I.env0.in1.in1 hb hx I (.cons rfl .nil) q) fun w s1 ⟨z, H1, I1, rz, x, ez, q1⟩ => ?_
  subst ez
  obtain ⟨t, rfl⟩ := rz
  exact ⟨.str x, H1, I1, ⟨t, rfl⟩, q1⟩
/-! ### repr of a list of data -/
theorem call_repr_lst (hg : X.A.guards = some []) (hu : X.A.units + 10 < cLine) : CallR X (.builtin "repr") (fun xs H Q => ∃ p ds, xs = [.ref p] ∧ Dp X.K H (.ref p) (.list ds) ∧ (PyData.list ds).showable = true ∧ (PyData.list ds).hasDict = false ∧
    (PyData.list ds).depth ≤ 4 ∧ (PyData.list ds).shown.length ≤ sizeLine ∧ Q (.str (PyData.list ds).shown) H) := by
  intro pins s σ H xs us Q I r h
  obtain ⟨p, ds, rfl, hd, hs, hn, hdp, hz, q⟩ := h
  obtain ⟨u, rfl, ru⟩ := r.one
  obtain rfl : u = Value.ref p := ru
  obtain ⟨as, rd⟩ := Dp.reads I _ _ _ hd rfl
  refine repr_of_reads' rd hs (fun z => by rw [hn] at z; cases z) hg (by omega) (fun _ _ z => z) (fun h' u tk kp => ?_) hz
  exact ⟨.str _, H, I.kept (t' := tk) kp, ⟨u, rfl⟩, q⟩
end
end K28
end
section
namespace K28
open PySem PySem.Spec PyProof.Rows L2
/-! ### super().__init__(..) in an own exception's __init__ (its class in a closure cell) -/
structure SupScope (N P : List Str) (sc : Scope) : Prop where
  kind : sc.kind = .function
  co : sc.isCoroutine = false
  gen : sc.isGenerator = false
  nd : N.Nodup
  pre : N.take P.length = P
  par : ∀ x ∈ P, sc.names.lookup x = some .local
  nocell : ∀ y ∈ sc.names, y.2 ≠ .cell
  free : ∀ y, sc.names.lookup y = some .free → y = "__class__"
def supCx (CX : CXT) (P : Program) (w : World) (K : PySem.W.Frag) (mg : Str → Option Value) (base : Heap) (N : List Str) (qual : Str) (scope : Scope) (f : Addr) (cd : Value) (cc : Addr) (A : Around) (outer : List Env) (s : Shared) (H : Hp) (E : XK) : Cx where
  prog := P
  w := w
  K := K
  mg := mg
  base := base
  A := A.deeper (PySem.W.ksEnv qual scope s.heap.objs.size f cd cc)
  N := N
  s_0 := s
  H_0 := H
  env := PySem.W.ksEnv qual scope s.heap.objs.size f cd cc
  outer := outer
  stack := PySem.W.ksEnv qual scope s.heap.objs.size f cd cc :: outer
  ex := []
  calm := true
  fn := fun _ => false
  pn := []
  xe := fun e s' => wpAny (model P w) (A.deeper (PySem.W.ksEnv qual scope s.heap.objs.size f cd cc)) (leaving (PySem.W.ksEnv qual scope s.heap.objs.size f cd cc) e) (fun _ s'' => CX outer H s E e s'') (fun e' s'' => CX outer H s E e' s'') s'
theorem lookup_keys {x : Str} {u : Value} : ∀ {l : List (Str × Value)}, (l.map (·.1)).Nodup → (x, u) ∈ l → l.lookup x = some u
  | [], _, h => by cases h
  | (y, v) :: l, nd, h => by
    rw [List.map_cons, List.nodup_cons] at nd
    rcases List.mem_cons.mp h with e | h
    · cases e
      simp [List.lookup]
    · have hne : x ≠ y := fun e => nd.1 (List.mem_map.mpr ⟨(x, u), h, e⟩)
      have hb : (x == y) = false := by simpa using hne
      show (match x == y with | true => some v | false => l.lookup x) = some u
      rw [hb]
      exact lookup_keys nd.2 h
theorem zip_rev {x : Str} {u : Value} {ps : List Str} {us : List Value} {i : Nat} (nd : ps.Nodup) (hp : ps[i]? = some x) (hu : us[i]? = some u) (hl : us.length = ps.length) : (ps.zip us).reverse.lookup x = some u := by
  refine lookup_keys ?_ (List.mem_reverse.mpr ?_)
  · rw [List.map_reverse, (List.reverse_perm _).nodup_iff, List.map_fst_zip (by omega)]
    exact nd
  · refine List.mem_of_getElem? (i := i) ?_
    rw [List.getElem?_zip_eq_some]
    exact ⟨hp, hu⟩
theorem sup_cell {cells : Addr} {x : Str} {c : Addr} (h : ([("__class__", cells)] : List (Str × Addr)).lookup x = some c) : x = "__class__" ∧ c = cells := by
  have h2 : (match x == ("__class__" : Str) with | true => some cells | false => none) = some c := h
  cases q : x == ("__class__" : Str) with
  | true =>
    rw [q] at h2
    exact ⟨eq_of_beq q, (Option.some.inj h2).symm⟩
  | false =>
    rw [q] at h2
    cases h2
theorem sup_start {CX : CXT} {P : Program} {w : World} {K : PySem.W.Frag} {mg : Str → Option Value} {base : Heap} {N ps : List Str} {qual : Str} {scope : Scope} {f cc D : Addr} {cd cl : Value} {cld : Option Addr} {csl : Array (Option Value)} {A : Around} {outer : List Env} {s : Shared} {H : Hp} {E : XK} {us : List Value} {vs : List V}
    {h1 : Heap} {tk : Nat} {pins : List (Addr × Obj)} (S : SupScope N ps scope) (hd : A.handled = none) (e0 : Env0 P w K mg base A outer s H) (hl : vs.length = ps.length) (r : Vals vs us)
    (lc : K.lookup cc = some ⟨cl, cld, .cell (some (.ref D)), csl⟩) (hns : h1.Ns s.heap.objs.size fun y => (ps.zip us).reverse.lookup y) (hk : ∀ b o, s.heap.get? b = some o → h1.get? b = some o)
    (hp : ∀ p ∈ pins, h1.get? p.1 = some p.2 ∧ H p.1 = none ∧ p.1 ≠ s.heap.objs.size ∧ p.1 ∉ frs outer ∧ ∀ v, p.2.data ≠ .cell v) :
    Inv (supCx CX P w K mg base N qual scope f cd cc A outer s H E) pins (L2.start N vs) H { s with heap := h1, toks := tk } := by
  have hbase : base.get? cc = some ⟨cl, cld, .cell (some (.ref D)), csl⟩ := e0.mod.kin _ _ lc
  have hcs := (e0.bs cc _ hbase).1
  have hcn := (e0.bs cc _ hbase).2
  have hus : us.length = ps.length := by
    rw [← r.length]
    exact hl
  have noA : ∀ b : Addr, b ∉ (supCx CX P w K mg base N qual scope f cd cc A outer s H E).ex := fun b z => absurd (show b ∈ ([] : List Addr) from z) (by simp)
  have hpl : ps.length ≤ N.length := by have := congrArg List.length S.pre; rw [List.length_take] at this; omega
  refine ⟨⟨e0.mod, S.kind, rfl, rfl, Nat.le_refl _, fun x y c h1 h2 => ?_, fun y hy => ?_, fun y c z _ => ?_, fun _ => hd, Around.frames_deeper e0.frames, .inr ⟨rfl, rfl⟩, fun b z => absurd z (noA b), e0.bs, e0.bsz, fun b _ _ => noA b, fun b z => absurd z (noA b), e0.funs, e0.frf⟩,
    rfl, e0.bare, Un.kept hk, ⟨_, hns, fun i y v h1 h2 h3 => ?_⟩, fun y c h => ?_, e0.hok.fresh (Nat.le_refl _), fun y c h => ?_, fun p hpp => ?_, e0.hok.kept hk, ?_⟩
  · exact ((sup_cell h1).1).trans (sup_cell h2).1.symm
  · have hy : scope.names.lookup y = some .cell ∨ scope.names.lookup y = some .free := hy
    rcases hy with hy | hy
    · exact absurd rfl (S.nocell _ (PySem.mem_of_lookup hy))
    · refine ⟨cc, ?_⟩
      rw [S.free y hy] <;> rfl
  · have z : false = true := z
    cases z
  · have hi : i < vs.length := by
      unfold L2.start at h2
      by_cases hi : i < vs.length
      · exact hi
      · rw [List.getElem?_append_right (by simpa using hi)] at h2
        rw [List.getElem?_replicate] at h2
        split at h2 <;> cases h2
    have ha : vs[i]? = some v := by
      unfold L2.start at h2
      rw [List.getElem?_append_left (by simpa using hi), List.getElem?_map] at h2
      cases e : vs[i]? with
      | none => rw [e] at h2; cases h2
      | some a => rw [e] at h2; cases h2; rfl
    obtain ⟨u, hu, rv⟩ := r.get ha
    have hp : ps[i]? = some y := by
      rw [← S.pre, List.getElem?_take_of_lt (by omega)]; exact h1
    have ndP : ps.Nodup := by rw [← S.pre]; exact S.nd.sublist (List.take_sublist _ _)
    exact ⟨u, rv, .inl ⟨S.par y (List.mem_of_getElem? hp), zip_rev ndP hp hu hus⟩⟩
  · obtain ⟨_, e⟩ := sup_cell h
    subst e
    exact ⟨_, _, hk _ _ hcs, rfl⟩
  · obtain ⟨_, e⟩ := sup_cell h
    subst e
    exact hcn
  · have hpp : p ∈ [] ++ pins := hpp
    exact hp p (by simpa using hpp)
  · unfold L2.start
    show _ = N.length
    rw [List.length_append, List.length_map, List.length_replicate]
    omega
section
variable {prog : Program} {w : World} {A : Around} {E : Value → Shared → Prop} {h : Heap} {g : Array GenState} {d : Drawn} {t : Nat} {os : OsState}
variable {nm q : Str} {C N : Addr} {bs bm : List Value} {hdct : Bool} {sn : List Str} {sub : List Value} {ab : Bool} {col : Option Bool} {dd : Option Addr} {k0 k1 k2 k3 k5 : Option Value}
theorem call_mw {u e t0 : Addr} {rest : List Value} {Q : Value → Shared → Prop}
    (hC : h.get? C = some (excClassObj nm q C N bs bm hdct sn sub ab col dd k0 k1 k2 k3 k5 "ValueError.__new__")) (he : h.get? e = some (PySem.W.excObj C t0 none .none)) (hu : h.get? u = some (PySem.W.kxs_mw "ValueError.__init__" e)) (hrest : rest.length ≤ sizeLine)
    (hq : ∀ h' t1, (∀ b o, b ≠ e → h.get? b = some o → h'.get? b = some o) → h'.get? e = some (PySem.W.excObj C t1 none .none) → Q .none ⟨h', g, d, t, os⟩) :
    wpAny (model prog w) A (call (.ref u) rest) Q E ⟨h, g, d, t, os⟩ := by
  refine wpAny_call (codeAny_of_tree ?_)
  show wpAny _ A.in1 (callAny (.ref u) ⟨rest, []⟩) _ _ _
  simp only [callAny]
  refine wpAny_bind (wpAny_load hu ?_)
  simp only [PySem.W.kxs_mw, show (Value.type "method-wrapper" == Value.type "method" || Value.type "method-wrapper" == Value.type "builtin_function_or_method" || Value.type "method-wrapper" == Value.type "method-wrapper") = true by decide, if_true]
  refine PySem.W.KFB.if_so (by decide) ?_
  refine wpAny_bind (PySem.W.check_bound_init F.excBase_ValueError.toExcCallFacts hC he rfl ?_)
  refine wpAny_bind (wpAny_pure (wpAny_pure ?_))
  refine ⟨plainId_quiet F.excBase_ValueError.init.plain _, codeAny_builtin F.excBase_ValueError.initEntry ?_⟩
  exact PySem.W.exc_init_tree (cls := .ref C) (t0 := t0) (dv := none) (c2 := .none) (c3 := .none) (b4 := .bool false) he hrest fun h' k e' _ => hq h' _ k e'
end
/-- what the written part says of such an __init__ -/
structure SupFn (K : PySem.W.Frag) (P : Program) (C f : Addr) (nm qual : Str) (params : Arguments) (body : List Stmt) (scope : Scope) (fd : FuncData) : Prop where
  ex : ∃ (oc : Value) (od : Option Addr) (kV doc pm : Value) (an : Option Addr) (cda cc : Addr) (ct : Value) (osl : Array (Option Value)) (cl ccl : Value) (cld cdd : Option Addr) (csl ccs : Array (Option Value)) (cvs : Array Value) (file : Str) (tf : Tok),
    fd = PySem.W.ksFn nm qual params body scope .none kV doc pm an (.ref cda) ct cc ∧ K.lookup f = some ⟨oc, od, .func fd, osl⟩ ∧ PySem.W.codeIn K (.ref cda) qual = true ∧ K.lookup cc = some ⟨cl, cld, .cell (some (.ref C)), csl⟩ ∧
    K.lookup cda = some ⟨ccl, cdd, .fields cvs, ccs⟩ ∧ cvs[2]? = some (.str file tf) ∧ ((P.main.file : Str) == file) = true
  sup : PySem.W.ks_superIn K C C "__init__" = some (some (.builtin "ValueError.__init__"))
  sub : PySem.W.mroIn K C (.ref C) = some true
  subV : PySem.W.subIn K (.ref C) (.type "ValueError") = some true
  cls : ∃ cd, PySem.W.clsIn K C = some cd
  noany : PySem.W.nsIn K cStatics "thirdparty.any" = some none
  top : (P.main.scope.names.lookup ("super" : Str)).isSome = false
/-- the reading of super().__init__(..), then t -/
def tSup (K : PySem.W.Frag) (C : Addr) (ta : TA) (t : TS) : TS := fun D σ H => ∃ a, σ[0]? = some (some (.ref a)) ∧ OexC K C ∧ H a = some (exo a C none) ∧ ta σ H fun vs H1 => vs.length ≤ 1000 ∧ H1 a = some (exo a C none) ∧ t D σ H1
theorem sup_ok {CX : CXT} {P : Program} {w : World} {K : PySem.W.Frag} {mg : Str → Option Value} {base : Heap} {C f : Addr} {nm qual : Str} {params : Arguments} {scope : Scope} {fd : FuncData} {N ps : List Str} {k : Nat} {sp : Sp} {p0 p1 p2 p3 p4 : Pos} {e : Expr} {es : List Expr} {rest : List Stmt} {ar : Arg}
    (F : SupFn K P C f nm qual params (.Expr (.Call (.Attribute (.Call (.Name "super" p0) [] [] p1) "__init__" p2) (e :: es) [] p3) p4 :: rest) scope fd) (S : SupScope N ps scope) (len : ∀ vs H Q E, sp vs H Q E → vs.length = ps.length)
    (hp0 : (params.posonlyargs ++ params.args).head? = some ar) (hps : ps[0]? = some ar.arg) (hsm : mg "super" = none) (hks : scope.names.lookup ("super" : Str) = some .globalImplicit) (hkc : scope.names.lookup ("__class__" : Str) = some .free)
    (hbody : ∀ (cdv : Value) (cc : Addr) (A : Around) (outer : List Env) (s : Shared) (H : Hp) (vs : List V) (Q : VK) (E : XK), Room k (A.deeper (PySem.W.ksEnv qual scope s.heap.objs.size f cdv cc)) → sp vs H Q E →
      ∃ ta t, PA (supCx CX P w K mg base N qual scope f cdv cc A outer s H E) (e :: es) ta ∧ PSs (supCx CX P w K mg base N qual scope f cdv cc A outer s H E) rest t ∧ tSup K C ta t { nx := fun _ H' => Q .non H', rt := Q } (L2.start N vs) H)
    (he : ∀ env : Env, env.scope = scope → starEach (e :: es) env = (false, eval e env) :: starEach es env := by intros; rfl) (hpl : ∀ env : Env, env.scope = scope → (backTo p3 (starEach es env)).any (·.1) = false := by intros; rfl)
    (hsw : ∀ env : Env, env.scope = scope → swapsWith (.Call (.Attribute (.Call (.Name "super" p0) [] [] p1) "__init__" p2) (e :: es) [] p3) none p4.line env = pure false := by intros; rfl)
    (hmc : ∀ env : Env, env.scope = scope → ∃ pl, eval (.Call (.Attribute (.Call (.Name "super" p0) [] [] p1) "__init__" p2) (e :: es) [] p3) env = (do
      let ov ← attributeBase (.Call (.Name "super" p0) [] [] p1) "__init__" env (eval (.Call (.Name "super" p0) [] [] p1) env)
      standAt p2.atName
      let (f, first) ← holding [ov] (getMethod ov "__init__" pl)
      callWith p3 f first (backTo p3 (starEach (e :: es) env)) []) := by intros; exact ⟨_, rfl⟩) : FnOk P w K mg base CX (k + 1) f fd ps sp := by
  obtain ⟨oc, od, kV, doc, pm, an, cda, cc, ct, osl, cl, ccl, cld, cdd, csl, ccs, cvs, file, tf, rfl, lk, hcd, lc, lcd, hvs, hfile⟩ := F.ex
  refine ⟨len, fun A outer s H args us vs Q E hr e0 hb r hsp => ?_⟩
  have hl := len _ _ _ _ hsp
  have KX : K.In s.heap := e0.mod.kin.keeps fun b o e => (e0.bs b o e).1
  have lim : s.heap.NoLimit := e0.mod.nolimit.keeps fun b o e => (e0.bs b o e).1
  have hus : us.length = ps.length := by
    rw [← r.length]
    exact hl
  have ndP : ps.Nodup := by rw [← S.pre]; exact S.nd.sublist (List.take_sublist _ _)
  refine ks_codeAny_call_defAt hr.depth (KX _ _ lk) rfl lim (PySem.W.codeRec_of KX hcd) rfl hb S.nocell (fun ⟨n, v⟩ hy => S.par n (List.of_mem_zip hy).1) (fun h₁ hns kp => ?_) S.co S.gen S.kind
  show _root_.PySem.wpAt (model P w) (A.deeper (PySem.W.ksEnv qual scope s.heap.objs.size f (.ref cda) cc)) (.func _ (PySem.W.ksEnv qual scope s.heap.objs.size f (.ref cda) cc)) (execs _ (PySem.W.ksEnv qual scope s.heap.objs.size f (.ref cda) cc)) _ _ _
  obtain ⟨ta, t, hta, ht, hq⟩ := hbody (.ref cda) cc A outer s H vs Q E (hr.deeper _) hsp
  generalize hX : supCx CX P w K mg base N qual scope f (.ref cda) cc A outer s H E = X at hta ht
  have hfinal : ∀ fl s', SP X [] { nx := fun _ H' => Q .non H', rt := Q } fl s' → CR CX outer P w H s Q E (.ok (.ret (match fl with | .ret v => v | _ => .none))) s' := fun fl s' hs => by
    subst hX
    have fin : ∀ {σ' : L2.St} {H' : Hp} {v : V} {u : Value}, Inv (supCx CX P w K mg base N qual scope f (.ref cda) cc A outer s H E) [] σ' H' s' → RelV v u → Q v H' → CE outer P w H s Q u s' :=
      fun {σ' H' v u} J rv q => ⟨v, H', J.os, J.bare, J.base, J.hok, rv, q⟩
    cases fl with
    | ret u =>
      obtain ⟨v, σ', H', J, rv, q⟩ := hs
      exact fin J rv q
    | next =>
      obtain ⟨σ', H', J, q⟩ := hs
      exact fin (v := V.non) (u := Value.none) J rfl q
    | brk =>
      obtain ⟨_, _, _, q⟩ := hs
      exact False.elim q
    | cont =>
      obtain ⟨_, _, _, q⟩ := hs
      exact False.elim q
  obtain ⟨a, hs0, T, hHa, hta2⟩ := hq
  obtain ⟨nm', q', N', bs', bm', sn', sub', ab', col', dd', k0', k1', k2', k3', k5', hC, hbm⟩ := T.cls
  have hN0 : N[0]? = some ar.arg := by
    have h0 : 0 < ps.length := (List.getElem?_eq_some_iff.mp hps).1
    rw [← S.pre, List.getElem?_take_of_lt h0] at hps
    exact hps
  have hv0 : us[0]? = some (.ref a) := by
    have h0 : 0 < vs.length := by
      rw [hl]
      exact (List.getElem?_eq_some_iff.mp hps).1
    have hs0' : (vs.map some ++ List.replicate (N.length - vs.length) none)[0]? = some (some (.ref a)) := hs0
    rw [List.getElem?_append_left (by simpa using h0), List.getElem?_map] at hs0'
    cases z : vs[0]? with
    | none =>
      rw [z] at hs0'
      cases hs0'
    | some v0 =>
      rw [z] at hs0'
      cases hs0'
      obtain ⟨u, hu, ru⟩ := r.get z
      obtain rfl : u = Value.ref a := ru
      exact hu
  have hm0 : (ps.zip us).reverse.lookup ar.arg = some (.ref a) := zip_rev ndP hps hv0 hus
  obtain ⟨t1, hxo⟩ := exo_at e0.hok hHa
  have Fr0 : Fr s.heap s.heap.objs.size h₁ fun y => (ps.zip us).reverse.lookup y := ⟨hns, kp, Nat.le_refl _⟩
  have I0 : PySem.W.InstAt h₁ a (PySem.W.excObj C t1 none .none) C none := ⟨kp _ _ hxo, rfl, rfl, trivial⟩
  obtain ⟨cdC, hcdC⟩ := F.cls
  have KI : ∀ {hh : Heap}, (∀ b o, s.heap.get? b = some o → hh.get? b = some o) → K.In hh := fun k b o q => k _ _ (KX b o q)
  refine ks_wpAt_execs_cons (ks_wpAt_Expr_any ?_ (by simp [interactive, S.kind]) (hsw _ rfl))
  obtain ⟨pl, hpl2⟩ := hmc (PySem.W.ksEnv qual scope s.heap.objs.size f (.ref cda) cc) rfl
  refine ks_wpAt_MethodCall ?_ hpl2
  have X1 : K.In h₁ := KI kp
  obtain ⟨oD, hD1, hD2⟩ : ∃ oD, h₁.get? C = some oD ∧ oD.data = .cls cdC := by
    have hD := hcdC
    unfold PySem.W.clsIn at hD
    split at hD
    · rename_i c d cd' sl ho
      cases hD
      exact ⟨_, X1 _ _ ho, rfl⟩
    · cases hD
  obtain ⟨mb, bns, bbo⟩ := e0.mod.blt
  have kb : ∀ b o, base.get? b = some o → h₁.get? b = some o := fun b o e => kp _ _ (e0.bs b o e).1
  refine ks_wpAt_super_base (env := PySem.W.ksEnv qual scope s.heap.objs.size f (.ref cda) cc) hks hkc rfl rfl (X1 _ _ lk) rfl hp0 rfl (X1 _ _ lcd) rfl hvs hfile F.top ?_
  refine PySem.W.ks_loadName_global S.kind hks (PySem.Calls.loadGlobal_builtin (env := PySem.W.ksEnv qual scope s.heap.objs.size f (.ref cda) cc) (e0.mod.glob.keeps kb) hsm (bns.keeps kb) ((bbo _ (by decide)).trans (show bootBuiltins "super" = some (.type "super") from by decide +kernel)) ⟨rfl, ?_⟩)
  refine wpAny_loadName_free S.kind hkc rfl ⟨_, X1 _ _ lc, rfl⟩ ?_
  refine wpAny_loadName_local S.kind (S.par _ (List.mem_of_getElem? hps)) hns hm0 ?_
  refine ks_wpAny_isType_cls hD1 hD2 ⟨rfl, ?_⟩
  refine ks_wpAny_call_super hD1 hD2 I0.at_ I0.cls (fun c e => ?_) (PySem.W.looks_mroIn X1 F.sub) (fun h' e k => ?_)
  · cases e
  obtain ⟨Fr1, N1, l1⟩ := PySem.W.ks_newsPush (news := []) (s := ⟨h₁, s.gens, s.drawn, s.toks + (ps.zip us).length, s.os⟩) Fr0 (fun p hp => absurd hp (by simp)) rfl e k
  refine PySem.W.kxs_method (K := K) PySem.W.kxs_ValueError Fr1 KX N1 (List.mem_cons_self ..) (⟨Fr1.keep _ _ hxo, rfl, rfl, trivial⟩ : PySem.W.InstAt h' a (PySem.W.excObj C t1 none .none) C none) F.noany F.sup F.subV rfl (fun q h'' Fr2 N2 lt2 => ?_)
  have hq0 := N2 _ (List.mem_cons_self ..)
  refine PySem.W.kxs_callWith1 N2 (List.mem_cons_self ..) ?_ (he _ rfl) (hpl _ rfl)
  have hqH : H q = none := e0.hok.fresh (by
    have z1 := lt2 _ (List.mem_cons_self ..)
    have z2 : s.heap.objs.size < h₁.objs.size := hns.lt
    have z3 : h₁.objs.size < q := z1
    omega)
  have I1 : Inv X [(q, PySem.W.kxs_mw "ValueError.__init__" a)] (L2.start N vs) H { s with heap := h'', toks := s.toks + (ps.zip us).length + 1 } := by
    subst hX
    refine sup_start S hr.hd e0 hl r lc Fr2.ns Fr2.keep fun p hp => ?_
    rcases List.mem_cons.mp hp with e | hp
    · subst e
      refine ⟨hq0.1, hqH, hq0.2.1, fun z => ?_, fun v z => by cases z⟩
      obtain ⟨_, o, ho, _⟩ := e0.funs.mem z
      rw [hq0.2.2] at ho
      cases ho
    · cases hp
  have hXe : X.env = PySem.W.ksEnv qual scope s.heap.objs.size f (.ref cda) cc := by
    subst hX
    rfl
  have hXA : X.A = A.deeper (PySem.W.ksEnv qual scope s.heap.objs.size f (.ref cda) cc) := by
    subst hX
    rfl
  have hXP : X.prog = P ∧ X.w = w ∧ X.K = K := by
    subst hX
    exact ⟨rfl, rfl, rfl⟩
  have hXx : X.xe = fun e s' => wpAny (model P w) (A.deeper (PySem.W.ksEnv qual scope s.heap.objs.size f (.ref cda) cc)) (leaving (PySem.W.ksEnv qual scope s.heap.objs.size f (.ref cda) cc) e) (fun _ s'' => CX outer H s E e s'') (fun e' s'' => CX outer H s E e' s'') s' := by
    subst hX
    rfl
  have hrun := hta.run p3 _ _ _ _ _ I1 hta2
  rw [hXe, hXA, hXP.1, hXP.2.1, hXx] at hrun
  refine thn hrun fun us1 s1 ⟨vs1, H1, I2, r2, hz, ha2, hq2⟩ => ⟨(I2.pin _ (List.mem_append_right _ (List.mem_cons_self ..))).1, ?_⟩
  have hC2 := I2.kIn _ _ (hXP.2.2.symm ▸ hC)
  obtain ⟨t2, hx2⟩ := exo_at I2.hok ha2
  have hu2 := (I2.pin _ (List.mem_append_right _ (List.mem_cons_self ..))).1
  have I2' := I2.pins_of (pins' := []) fun p hp => absurd hp (by simp)
  obtain ⟨hp2, g2, d2, tk2, os2⟩ := s1
  have hlen : us1.length ≤ sizeLine := by
    rw [← Paired.length r2, sizeLine_eq]
    omega
  refine call_mw hC2 hx2 hu2 hlen fun h3 t3 k3 hx3 => ?_
  have J := I2'.write (t' := tk2) (x := a) (e := a) (o := exo a C none) (by rw [ha2]; exact True.intro) (.inl rfl) k3 ⟨_, hx3⟩ (exo_ok hx3)
  have eu : upd H1 a (exo a C none) = H1 := by
    funext b
    by_cases hb : b = a
    · rw [hb, upd_same, ha2]
    · rw [upd_ne hb]
  rw [eu] at J
  have hrest := ht.run _ _ _ _ _ J hq2
  rw [hXe, hXA, hXP.1, hXP.2.1, hXx] at hrest
  exact wpAt_of_wpAny (wpAny_mono hrest (fun fl s' hs => hfinal fl s' hs) fun e s' hs => hs)
end K28
end
section
namespace K28
open PySem PySem.Spec L2 PyProof.Rows
/-! ### several clauses 'except C as e' -/
abbrev unE (i : Nat) (D : Ends) : Ends := { nx := fun ρ G => D.nx (ρ.set i none) G, rt := D.rt, bk := fun ρ G => D.bk (ρ.set i none) G, ct := fun ρ G => D.ct (ρ.set i none) G }
abbrev Clause := Value × (Addr → Value → Option Addr → TS)
def wManyAs (K : PySem.W.Frag) (i : Nat) (Wout : WX) (D : Ends) : List Clause → WX
  | [] => Wout
  | (c, ts) :: r => fun cls d ρ G => ∃ b, PySem.W.exmOne K cls c = some b ∧ (b = true → ∀ a, G a = none → ts a cls d (unE i D) (ρ.set i (some (.ref a))) G) ∧ (b = false → wManyAs K i Wout D r cls d ρ G)
/-- a suite under the name of a clause -/
def SuiteOk (X : Cx) (b₀ : Stmt) (suite : List Stmt) (ts : Addr → Value → Option Addr → TS) : Prop :=
  ∀ (a : Addr) (eo : Obj) (cls : Value) (d : Option Addr) (ps : List (Addr × Obj)), Zc cls d eo → (∃ fv, eo.data = .fields fv) → PSs (X.suite a ((a, eo) :: ps)) (b₀ :: suite) (ts a cls d)
inductive HdsAs (X : Cx) (n : Str) : List ExceptHandler → List Clause → Prop
  | nil : HdsAs X n [] []
  | cons {x : Str} {c : Value} {ts : Addr → Value → Option Addr → TS} {b₀ : Stmt} {suite : List Stmt} {q1 q2 : Pos} {hds : List ExceptHandler} {l : List Clause} (nm : Names X x c) (su : SuiteOk X b₀ suite ts) (rest : HdsAs X n hds l) :
      HdsAs X n (.ExceptHandler (some (.Name x q1)) (some n) (b₀ :: suite) q2 :: hds) ((c, ts) :: l)
/-- an exception that the frame of X holds, the state without it being sI -/
structure Grip (X : Cx) (pins : List (Addr × Obj)) (ρ : L2.St) (G : Hp) (cls : Value) (d : Option Addr) (a : Addr) (B : Heap) (sI t : Shared) : Prop where
  inv : Inv X pins ρ G sI
  ground : ∀ b o, sI.heap.get? b = some o → b ∉ frs X.stack → B.get? b = some o
  up : sI.heap.UpToSlots t.heap
  fly : HandSPX.FlyingZ B (X.env :: X.outer) a (Zc cls d) t.heap
  free : G a = none
  os : t.os = sI.os
  bare : AllBare t.gens
section
variable {X : Cx} {pins : List (Addr × Obj)} {ρ : L2.St} {G : Hp} {cls : Value} {d : Option Addr} {a : Addr} {B : Heap} {sI t : Shared}
theorem Grip.now (g : Grip X pins ρ G cls d a B sI t) : Inv X pins ρ G t := g.inv.landed g.ground g.fly.1 g.up g.os g.bare
theorem Grip.apart (g : Grip X pins ρ G cls d a B sI t) (hf : X.env.frame = some X.env.locals) : a ≠ X.env.locals ∧ a ∉ X.fs := by
  obtain ⟨eo, fv, at_, _, dt⟩ := g.fly.there
  have out : a ∉ frs (X.env :: X.outer) := fun m => by
    obtain ⟨_, o2, at2, no⟩ := g.fly.2.2.1.mem m
    rw [at_] at at2
    cases at2
    exact no _ dt
  refine ⟨fun z => out ?_, fun m => out ?_⟩
  · exact List.mem_filterMap.mpr ⟨X.env, List.mem_cons_self, hf.trans (congrArg some z.symm)⟩
  · obtain ⟨e1, m1, q1⟩ := List.mem_filterMap.mp m
    exact List.mem_filterMap.mpr ⟨e1, .tail _ m1, q1⟩
/-- no clause is left: it goes on -/
theorem Grip.on {W : WX} {D : Ends} (g : Grip X pins ρ G cls d a B sI t) (hs : X.stack = X.env :: X.outer) (hf : X.env.frame = some X.env.locals) (tk : Takes X W) (w : W cls d ρ G) :
    wpAny (model X.prog X.w) X.A (handleBy (.ref a) X.env []) (SP X pins D) X.xe t := by
  have raise_ : wpAny (model X.prog X.w) X.A (setFlight (.ref a) X.env.frame) (fun _ t2 => wpAny (model X.prog X.w) X.A (throw (.ref a) : Sem Flow) (SP X pins D) X.xe t2) X.xe t := by
    rw [hf]
    refine HandSPX.setFlight_upZ g.fly fun h2 held u2 => wpAny_throw (tk _ _ ⟨a, B, sI, pins, ρ, G, cls, d, rfl, g.inv, g.ground, g.up.trans u2, ?_, g.free, g.os, g.bare, w⟩)
    rw [hs]
    exact .inr (.inr held)
  obtain ⟨_, _, _, eo, fv, T, oT, tb, at_, zc, dt, f1, _⟩ := id g.fly
  refine wpAny_handleBy_nil ?_
  unfold PySem.passOn
  refine wpAny_bind (wpAny_field at_ dt f1 ?_)
  have nn : ¬ ((Value.ref T == Value.none) = true) := by simp
  rw [if_neg nn]
  first
    | exact wpAny_bind raise_
    | exact wpAny_bind (wpAny_pure (wpAny_bind raise_))
/-- one clause -/
theorem Grip.clause {n x : Str} {i : Nat} {c : Value} {ts : Addr → Value → Option Addr → TS} {b₀ : Stmt} {suite : List Stmt} {q1 q2 : Pos} {hds : List ExceptHandler} {b : Bool} {D : Ends} (g : Grip X pins ρ G cls d a B sI t) (hf : X.env.frame = some X.env.locals)
    (nd : X.N.Nodup) (hi : X.N[i]? = some n) (hln : X.env.kindOf n = some .local) (nm : Names X x c) (su : SuiteOk X b₀ suite ts) (ask : PySem.W.exmOne X.K cls c = some b)
    (yes : b = true → ts a cls d (unE i D) (ρ.set i (some (.ref a))) G) (no : b = false → wpAny (model X.prog X.w) X.A (handleBy (.ref a) X.env hds) (SP X pins D) X.xe t) :
    wpAny (model X.prog X.w) X.A (handleBy (.ref a) X.env (.ExceptHandler (some (.Name x q1)) (some n) (b₀ :: suite) q2 :: hds)) (SP X pins D) X.xe t := by
  obtain ⟨nl, nf⟩ := g.apart hf
  obtain ⟨eo, fv, at_, zc, dt⟩ := g.fly.there
  have J := g.now
  have IS := J.suite at_ dt g.free nl nf
  have ty : PySem.W.Looks (model X.prog X.w) t.heap (typeOf (.ref a)) cls := fun A Q E u k q => wpAny_typeOf_ref (k _ _ at_) (by rw [zc.1]; exact q)
  have said := PySem.W.exm_one (M := model X.prog X.w) J.kIn ty ask
  have named : ∀ {Q : Value → Shared → Prop} {E : Value → Shared → Prop}, Q c t → wpAny (model X.prog X.w) (X.A.mark (some (.ref a))) (eval (.Name x q1) X.env) Q E t := fun {Q E} q => by
    rcases nm with ⟨gl, db, own | ⟨nown, bi, nn⟩⟩
    · exact ld_glob (X := X.suite a ((a, eo) :: (X.pn ++ pins))) IS gl own q db
    · exact ld_blt (X := X.suite a ((a, eo) :: (X.pn ++ pins))) IS gl nown bi q nn db
  refine wpAny_handleBy_cons (codeAny_handlers_test (named (said.here ?_))) (by intro z; cases z)
  cases b with
  | false => exact no rfl
  | true =>
    refine codeAny_handlers_suite_as (HandSPX.lands_againZ g.fly fun h2 fly2 u2 => ?_)
    have g2 : Grip X pins ρ G cls d a B sI { t with heap := h2 } := ⟨g.inv, g.ground, g.up.trans u2, fly2, g.free, g.os, g.bare⟩
    obtain ⟨eo2, fv2, at2, zc2, dt2⟩ := fly2.there
    have bind_ : Loc X.env.scope n := .inl hln
    refine store_ok (X := X.suite a ((a, eo2) :: (X.pn ++ pins))) (v := .ref a) (g2.now.suite at2 dt2 g.free nl nf) nd hi bind_ rfl (fun t3 I3 => ?_) (.inr hln)
    have undo : ∀ {ρ4 : L2.St} {G4 : Hp} {t4 : Shared} {Q : Shared → Prop}, Inv (X.suite a ((a, eo2) :: (X.pn ++ pins))) [] ρ4 G4 t4 → (∀ t5, Inv X pins (ρ4.set i none) G4 t5 → Q t5) →
        wpAny (model X.prog X.w) X.A (do bindName X.env n .none; unbindBehindTheSuite X.env n q2) (fun _ t5 => Q t5) X.xe t4 := fun {ρ4 G4 t4 Q} I4 k => gone_ok (I4.unsuite g.inv.ok) nd hi hln k
    refine wpAny_mono ((su a eo2 cls d (X.pn ++ pins) zc2 ⟨_, dt2⟩).run [] t3 _ G _ I3 (yes rfl)) (fun fl t4 out => ?_) (fun _ _ z => z.elim)
    cases fl with
    | ret u =>
      obtain ⟨v4, ρ4, G4, I4, rv, z⟩ := out
      exact undo I4 fun t5 I5 => ⟨v4, _, _, I5, rv, z⟩
    | next =>
      obtain ⟨ρ4, G4, I4, z⟩ := out
      exact undo I4 fun t5 I5 => ⟨_, G4, I5, z⟩
    | brk =>
      obtain ⟨ρ4, G4, I4, z⟩ := out
      exact undo I4 fun t5 I5 => ⟨_, G4, I5, z⟩
    | cont =>
      obtain ⟨ρ4, G4, I4, z⟩ := out
      exact undo I4 fun t5 I5 => ⟨_, G4, I5, z⟩
theorem Grip.all {n : Str} {i : Nat} {W : WX} {D : Ends} (g : Grip X pins ρ G cls d a B sI t) (hs : X.stack = X.env :: X.outer) (hf : X.env.frame = some X.env.locals) (nd : X.N.Nodup) (hi : X.N[i]? = some n) (hln : X.env.kindOf n = some .local) (tk : Takes X W)
    {hds : List ExceptHandler} {l : List Clause} (hh : HdsAs X n hds l) (w : wManyAs X.K i W D l cls d ρ G) : wpAny (model X.prog X.w) X.A (handleBy (.ref a) X.env hds) (SP X pins D) X.xe t := by
  induction hh with
  | nil => exact g.on hs hf tk w
  | cons nm su _ ih =>
    obtain ⟨b, ask, yes, no⟩ := w
    exact g.clause hf nd hi hln nm su ask (fun z => yes z a g.free) fun z => ih (no z)
end
section
variable {X : Cx} {n : Str} {i : Nat} {body : List Stmt} {h₀ : ExceptHandler} {hds : List ExceptHandler} {l : List Clause} {pos : Pos} {tb : WX → TS} {W : WX}
theorem ps_try_manyAs (hs : X.stack = X.env :: X.outer) (hf : X.env.frame = some X.env.locals) (nd : X.N.Nodup) (hi : X.N[i]? = some n) (hln : X.env.kindOf n = some .local) (tk : Takes X W)
    (hb : ∀ (V : WX) (ps : List (Addr × Obj)) (xe : Value → Shared → Prop), Takes (X.tr ps xe) V → PassesOwn (model X.prog X.w) X.A X.env xe → PSs (X.tr ps xe) body (tb V)) (hh : HdsAs X n (h₀ :: hds) l) :
    PS X (.Try body (h₀ :: hds) [] [] pos) (fun D ρ G => tb (wManyAs X.K i W D l) D ρ G) := by
  refine ⟨fun pins s ρ G D I h => wpAny_Try_except ?_⟩
  have frames : X.A.frames = some (X.env :: X.outer) := I.ok.frames.trans (congrArg some hs)
  have catch_ : Takes (X.tr (X.pn ++ pins) (fun e t1 => wpAny (model X.prog X.w) X.A (noteFrame e X.env) (fun _ t2 => wpAny (model X.prog X.w) X.A (setFlight e none) (fun _ t3 =>
      wpAny (model X.prog X.w) X.A (handleBy e X.env (h₀ :: hds)) (SP X pins D) X.xe t3) X.xe t2) X.xe t1)) (wManyAs X.K i W D l) := fun u t xx => by
    obtain ⟨a, B, sI, ps, ρ2, G2, cls, d, rfl, J, ground, up, sky, free, os, bare, w⟩ := xx
    have sky2 : Sky B (X.env :: X.outer) a (Zc cls d) X.env.locals t.heap := hs ▸ sky
    refine Sky.land Zc.steady frames hf sky2 fun h3 fly u3 => ?_
    have g : Grip X pins ρ2 G2 cls d a B sI { t with heap := h3 } := ⟨J.ofTry I.ok, ground, up.trans u3, fly, free, os, bare⟩
    exact g.all hs hf nd hi hln tk hh w
  refine wpAny_mono ((hb (wManyAs X.K i W D l) (X.pn ++ pins) _ catch_ PassesOwn.looking).run [] s ρ G D (I.toTry _) h) (fun fl t out => ?_) fun _ _ z => z
  cases fl with
  | ret u =>
    obtain ⟨v, ρ2, G2, J, rv, q⟩ := out
    exact ⟨v, ρ2, G2, J.ofTry I.ok, rv, q⟩
  | next =>
    obtain ⟨ρ2, G2, J, q⟩ := out
    exact wpAny_execs_nil ⟨ρ2, G2, J.ofTry I.ok, q⟩
  | brk =>
    obtain ⟨ρ2, G2, J, q⟩ := out
    exact ⟨ρ2, G2, J.ofTry I.ok, q⟩
  | cont =>
    obtain ⟨ρ2, G2, J, q⟩ := out
    exact ⟨ρ2, G2, J.ofTry I.ok, q⟩
end
end K28
end
section
namespace K28
open PySem PySem.Spec PySem.Calls L2 PyProof.Rows
/-! ### isinstance of a caught exception that has its dict -/
theorem bind_data {K : PySem.W.Frag} {D : Addr} {od : Option Obj} {nm : Str} {v get : Value} (hc : (PySem.W.clsIn K D).isSome = true) (ha : PySem.W.findIn K (.ref D) nm = some (some v)) (hg : PySem.W.specialIn K v "__get__" = some (some get)) (ht : PySem.W.takesIn K v = some true) :
    PySem.W.findObj K D od nm = some (.bind get v) := by
  unfold PySem.W.findObj
  cases e : PySem.W.clsIn K D with
  | none =>
    rw [e] at hc
    cases hc
  | some cd => simp [ha, hg, ht]
section
variable {prog : Program} {w : World} {A : Around} {E : Value → Shared → Prop} {K : PySem.W.Frag} {D a : Addr} {eo : Obj} {od : Option Obj}
theorem exc_cls (C : ExcC K D) : (PySem.W.clsIn K D).isSome = true := by
  obtain ⟨cd, hc, _⟩ := PySem.W.any_some C.hd
  rw [hc]
  rfl
theorem exc_class {hp : Heap} {g : Array GenState} {d : Drawn} {t : Nat} {os : OsState} {Q : Option Value → Shared → Prop} (C : ExcC K D) (X : K.In hp) (I : PySem.W.InstAt hp a eo D od) (h : Q (some (.ref D)) ⟨hp, g, d, t + 1, os⟩) :
    wpAny (model prog w) A (getAttr? (.ref a) "__class__") Q E ⟨hp, g, d, t, os⟩ := by
  have found := PySem.W.looks_find (M := model prog w) X I (bind_data (od := od) (exc_cls C) C.ha C.hn C.ht)
  have tyL := I.type (M := model prog w)
  have gaL := PySem.W.looks_findIn (M := model prog w) X C.hg
  have gtL := PySem.W.looks_findIn (M := model prog w) X C.hk
  have isB : PySem.W.Looks (model prog w) hp (isInstance (.ref a) (.type "BaseException")) true := tyL.andThen (PySem.W.looks_subIn X C.hs)
  have plain_ : (Value.builtin "BaseException.__getattribute__" == Value.builtin "object.__getattribute__") = false := by decide +kernel
  unfold getAttr? getAttrBy? getAttrBy
  refine wpAny_bind (wpAny_mkText (wpAny_bind (wpAny_attempt (wpAny_holding (wpAny_bind (tyL.at (wpAny_bind (gaL.at ?_))))))))
  refine PySem.W.KFB.if_not (show (onTheHeap (Value.ref D) && Value.builtin "BaseException.__getattribute__" == Value.builtin "object.__getattribute__") = false by rw [plain_, Bool.and_false]) ?_
  unfold getAttrByItsOwn hookBefore
  refine wpAny_bind (PySem.W.KFB.if_so (show onTheHeap (Value.ref D) = true from rfl) (gtL.at (wpAny_bind (wpAny_attempt (wpAny_holding ?_)))))
  unfold callGetattribute
  refine PySem.W.KFB.if_not (show (false && onTheHeap (Value.builtin "BaseException.__getattribute__")) = false from rfl) ?_
  unfold boundAndCalled
  rw [PySem.F.excAttr_ValueError.ga.bind (.ref a)]
  refine wpAny_bind (wpAny_pure (wpAny_call (codeAny_call_builtin PySem.F.excAttr_ValueError.ga.plain PySem.F.entry_bexc_ga ?_)))
  refine @PySem.W.check_slot (model prog w) _ _ ⟨hp, g, d, t + 1, os⟩ "BaseException.__getattribute__" "BaseException" "__getattribute__" (.ref a) [.str "__class__" t] [] _ (by decide +kernel) (by decide +kernel) isB (PySem.F.args_bexc_ga (.ref a) (.str "__class__" t)) ?_
  unfold Builtin.«object.__getattribute__»
  refine wpAny_bind (wpAny_of_eq (a := ((Value.ref a : Value), [Value.str "__class__" t])) (by first | rfl | (simp only [slotArgs]; rfl)) (wpAny_bind (wpAny_pure (wpAny_bind (tyL.at (wpAny_bind (found.at ?_)))))))
  show wpAny _ _ (holding [Value.builtin "object.__class__"] (call (.builtin "getset_descriptor.__get__") [.builtin "object.__class__", .ref a, .ref D]) >>= ret) _ _ _
  refine wpAny_bind (wpAny_holding (wpAny_call (PySem.W.class_get (s := ⟨hp, g, d, t + 1, os⟩) (ox := eo) (od := od) X I C.hm (wpAny_pure ?_))))
  show wpAny _ _ (handedOut (.ref D)) _ _ _
  rw [PySem.W.handedOut_of (v := .ref D) rfl]
  first
    | exact wpAny_pure h
    | exact wpAny_pure (wpAny_pure h)
    | exact wpAny_pure (wpAny_bind (wpAny_pure (wpAny_pure h)))
theorem exc_kit (C : ExcC K D) : PySem.W.KitX K (.ref a) (.ref D) (fun h => PySem.W.InstAt h a eo D od) where
  ty := fun _ _ _ I => I.type
  it := fun M h X _ => by
    have hc := exc_cls C
    unfold PySem.W.clsIn at hc
    split at hc
    · rename_i oc dd cd sl lk
      intro A' Q' E' u k q
      unfold isType loadHead
      exact wpAny_bind (wpAny_loadPart (k _ _ (X _ _ lk)) (wpAny_pure q))
    · cases hc
  ne := (PySem.W.handS_kitx_exc (x := a) (ox := eo) C.hg C.hk C.hs C.hd C.ha C.hn C.ht C.hm).ne
  ca := fun X I k => exc_class C X I k
end
/-- isinstance(e, c), e the exception that the suite holds, its dict at dx -/
def rIsX (K : PySem.W.Frag) (D a dx : Addr) : List V → Hp → VK → Prop := fun xs H Q => ∃ fs, H dx = some (.xd fs) ∧ rIsE K D a xs H Q
theorem call_isX {X : Cx} {a D dx : Addr} {eo : Obj} {ps : List (Addr × Obj)} (C : ExcC X.K D) (zc : Zc (.ref D) (some dx) eo) (hf : ∃ fv, eo.data = .fields fv) :
    CallR (X.suite a ((a, eo) :: ps)) (.builtin "isinstance") (rIsX X.K D a dx) := by
  intro pins s σ H xs us Q I r h
  obtain ⟨fs, hdx, c, cv, b, rfl, hcv, ask, q⟩ := h
  obtain ⟨u1, u2, rfl, r1, r2⟩ := vals2 r
  obtain rfl : u1 = Value.ref a := r1
  obtain rfl := hcv _ r2
  have held := (I.pin (a, eo) (List.mem_append_left _ List.mem_cons_self)).1
  obtain ⟨mA, ⟨od, _, _, ho, _⟩, _⟩ := I.hok dx _ hdx
  obtain ⟨fv, dt⟩ := hf
  obtain ⟨oc, dd, oda, sl⟩ := eo
  obtain ⟨z1, z2⟩ := zc
  dsimp only at z1 z2 dt
  subst z1 z2 dt
  have J : PySem.W.InstAt s.heap a ⟨.ref D, some dx, .fields fv, sl⟩ D (some od) := ⟨held, rfl, rfl, ho⟩
  exact PySem.W.kia_one (exc_kit (od := some od) C) I.kIn J ask (fun z => nomatch z) fun tk => ⟨.bl b, H, I.kept (t' := tk) fun _ _ z => z, rfl, q⟩
end K28
end
section
/-! the mathematics of law k28: closed sets of values, parts of tables, rules; plain Lean, no program in sight -/
namespace K28
/-! ### values of trees -/
inductive Gen (op : Nat → Nat → Nat) (vs : List Nat) : Nat → Prop
  | base {x : Nat} : x ∈ vs → Gen op vs x
  | step {x y : Nat} : Gen op vs x → Gen op vs y → Gen op vs (op x y)
theorem Gen.congr {op : Nat → Nat → Nat} {vs ws : List Nat} (h : ∀ x, x ∈ vs → x ∈ ws) {x : Nat} (g : Gen op vs x) : Gen op ws x := by
  induction g with
  | base m => exact .base (h _ m)
  | step _ _ a b => exact .step a b
/-- ascending, and just the values of trees of vs -/
structure IsGen (op : Nat → Nat → Nat) (vs L : List Nat) : Prop where
  up : L.Pairwise (· < ·)
  mem : ∀ x, x ∈ L ↔ Gen op vs x
theorem up_unique : ∀ {L M : List Nat}, L.Pairwise (· < ·) → M.Pairwise (· < ·) → (∀ x, x ∈ L ↔ x ∈ M) → L = M
  | [], [], _, _, _ => rfl
  | [], m :: M, _, _, h => by
    have := (h m).mpr List.mem_cons_self
    cases this
  | l :: L, [], _, _, h => by
    have := (h l).mp List.mem_cons_self
    cases this
  | l :: L, m :: M, h1, h2, h => by
    rw [List.pairwise_cons] at h1 h2
    have e : l = m := by
      have a := (h l).mp List.mem_cons_self
      have b := (h m).mpr List.mem_cons_self
      rcases List.mem_cons.mp a with a | a
      · exact a
      · rcases List.mem_cons.mp b with b | b
        · exact b.symm
        · have := h1.1 _ b
          have := h2.1 _ a
          omega
    subst e
    congr 1
    refine up_unique h1.2 h2.2 fun x => ?_
    constructor
    · intro hx
      rcases List.mem_cons.mp ((h x).mp (List.mem_cons_of_mem _ hx)) with q | q
      · have := h1.1 _ hx
        omega
      · exact q
    · intro hx
      rcases List.mem_cons.mp ((h x).mpr (List.mem_cons_of_mem _ hx)) with q | q
      · have := h2.1 _ hx
        omega
      · exact q
theorem IsGen.unique {op : Nat → Nat → Nat} {vs L M : List Nat} (a : IsGen op vs L) (b : IsGen op vs M) : L = M :=
  up_unique a.up b.up fun x => (a.mem x).trans (b.mem x).symm
/-- a sorted arrangement of a list without doubles is strictly ascending -/
theorem up_of_sorted : ∀ {L : List Nat}, L.Pairwise (· ≤ ·) → L.Nodup → L.Pairwise (· < ·)
  | [], _, _ => .nil
  | x :: L, h, n => by
    rw [List.pairwise_cons] at h ⊢
    rw [List.nodup_cons] at n
    refine ⟨fun y hy => ?_, up_of_sorted h.2 n.2⟩
    have := h.1 y hy
    have : x ≠ y := fun e => n.1 (e ▸ hy)
    omega
/-! ### the closing loop: what holds of found between two turns -/
structure Clo (op : Nat → Nat → Nat) (vs F : List Nat) (i : Nat) : Prop where
  nd : F.Nodup
  gen : ∀ x ∈ F, Gen op vs x
  base : ∀ x ∈ vs, x ∈ F
  done : ∀ a b x y, a < i → b < i → F[a]? = some x → F[b]? = some y → op x y ∈ F
/-- within a turn: found has grown from F0 to F; the pairs of the i-th with the first j are done -/
structure CloT (op : Nat → Nat → Nat) (vs F0 F : List Nat) (i j : Nat) : Prop where
  nd : F.Nodup
  gen : ∀ x ∈ F, Gen op vs x
  pre : ∃ R, F = F0 ++ R
  turn : ∀ b x y, b < j → F0[i]? = some x → F0[b]? = some y → op x y ∈ F ∧ op y x ∈ F
theorem nodup_snoc {α : Type} {l : List α} {x : α} (h : l.Nodup) (hx : x ∉ l) : (l ++ [x]).Nodup := by
  rw [List.nodup_append]
  refine ⟨h, by simp, fun a ha b hb => ?_⟩
  rw [List.mem_singleton] at hb
  subst hb
  exact fun e => hx (e ▸ ha)
/-- one more item, if it is new -/
def addN (F : List Nat) (x : Nat) : List Nat := if x ∈ F then F else F ++ [x]
theorem addN_mem {F : List Nat} {x : Nat} : x ∈ addN F x := by
  unfold addN
  split
  · assumption
  · simp
theorem addN_sub {F : List Nat} {x y : Nat} (h : y ∈ F) : y ∈ addN F x := by
  unfold addN
  split
  · exact h
  · exact List.mem_append_left _ h
theorem addN_of {F : List Nat} {x y : Nat} (h : y ∈ addN F x) : y ∈ F ∨ y = x := by
  unfold addN at h
  split at h
  · exact .inl h
  · rcases List.mem_append.mp h with h | h
    · exact .inl h
    · exact .inr (List.mem_singleton.mp h)
theorem addN_nd {F : List Nat} {x : Nat} (h : F.Nodup) : (addN F x).Nodup := by
  unfold addN
  split
  · exact h
  · exact nodup_snoc h (by assumption)
theorem addN_pre {F : List Nat} {x : Nat} : ∃ R, addN F x = F ++ R := by
  unfold addN
  split
  · exact ⟨[], by simp⟩
  · exact ⟨[x], rfl⟩
theorem CloT.start {op : Nat → Nat → Nat} {vs F : List Nat} {i : Nat} (h : Clo op vs F i) : CloT op vs F F i 0 :=
  ⟨h.nd, h.gen, ⟨[], by simp⟩, fun b _ _ hb => absurd hb (Nat.not_lt_zero _)⟩
theorem get_pre {F0 R : List Nat} {i x : Nat} (h : F0[i]? = some x) : (F0 ++ R)[i]? = some x := by
  have hi := (List.getElem?_eq_some_iff.mp h).1
  rw [List.getElem?_append_left hi]
  exact h
theorem CloT.next {op : Nat → Nat → Nat} {vs F0 F : List Nat} {i j x y : Nat} (h : CloT op vs F0 F i j) (hx : F0[i]? = some x) (hy : F0[j]? = some y) : CloT op vs F0 (addN (addN F (op x y)) (op y x)) i (j + 1) := by
  obtain ⟨R, hR⟩ := h.pre
  have gx : Gen op vs x := h.gen x (by rw [hR]; exact List.mem_append_left _ (List.mem_of_getElem? hx))
  have gy : Gen op vs y := h.gen y (by rw [hR]; exact List.mem_append_left _ (List.mem_of_getElem? hy))
  refine ⟨addN_nd (addN_nd h.nd), fun z hz => ?_, ?_, fun b u v hb hu hv => ?_⟩
  · rcases addN_of hz with hz | rfl
    · rcases addN_of hz with hz | rfl
      · exact h.gen z hz
      · exact .step gx gy
    · exact .step gy gx
  · obtain ⟨R1, h1⟩ := addN_pre (F := F) (x := op x y)
    obtain ⟨R2, h2⟩ := addN_pre (F := addN F (op x y)) (x := op y x)
    exact ⟨R ++ R1 ++ R2, by rw [h2, h1, hR]; simp⟩
  · by_cases e : b = j
    · subst e
      rw [hx] at hu
      rw [hy] at hv
      cases hu
      cases hv
      exact ⟨addN_sub addN_mem, addN_mem⟩
    · obtain ⟨a, c⟩ := h.turn b u v (by omega) hu hv
      exact ⟨addN_sub (addN_sub a), addN_sub (addN_sub c)⟩
theorem CloT.end {op : Nat → Nat → Nat} {vs F0 F : List Nat} {i j : Nat} (h0 : Clo op vs F0 i) (h : CloT op vs F0 F i j) (hj : i < j) (hi : i < F0.length) : Clo op vs F (i + 1) := by
  obtain ⟨R, rfl⟩ := h.pre
  refine ⟨h.nd, h.gen, fun x hx => List.mem_append_left _ (h0.base x hx), fun a b x y ha hb hx hy => ?_⟩
  have ga : F0[a]? = some x := by
    rw [List.getElem?_append_left (by omega)] at hx
    exact hx
  have gb : F0[b]? = some y := by
    rw [List.getElem?_append_left (by omega)] at hy
    exact hy
  by_cases ea : a = i
  · subst ea
    exact (h.turn b x y (by omega) ga gb).1
  · by_cases eb : b = i
    · subst eb
      exact (h.turn a y x (by omega) gb ga).2
    · exact List.mem_append_left _ (h0.done a b x y (by omega) (by omega) ga gb)
theorem Clo.end {op : Nat → Nat → Nat} {vs F : List Nat} {i : Nat} (h : Clo op vs F i) (hi : F.length ≤ i) {x : Nat} : x ∈ F ↔ Gen op vs x := by
  refine ⟨h.gen x, fun g => ?_⟩
  induction g with
  | base m => exact h.base _ m
  | step _ _ a b =>
    obtain ⟨ia, ha⟩ := List.getElem?_of_mem a
    obtain ⟨ib, hb⟩ := List.getElem?_of_mem b
    have la := (List.getElem?_eq_some_iff.mp ha).1
    have lb := (List.getElem?_eq_some_iff.mp hb).1
    exact h.done ia ib _ _ (by omega) (by omega) ha hb
theorem Clo.isGen {op : Nat → Nat → Nat} {vs F L : List Nat} {i : Nat} (h : Clo op vs F i) (hi : F.length ≤ i) (hp : L.Perm F) (hs : L.Pairwise (· ≤ ·)) : IsGen op vs L :=
  ⟨up_of_sorted hs (hp.nodup_iff.mpr h.nd), fun x => hp.mem_iff.trans (h.end hi)⟩
/-- values below n -/
theorem gen_lt {op : Nat → Nat → Nat} {vs : List Nat} {n : Nat} (hop : ∀ x y, x < n → y < n → op x y < n) (hv : ∀ x ∈ vs, x < n) {x : Nat} (g : Gen op vs x) : x < n := by
  induction g with
  | base m => exact hv _ m
  | step _ _ a b => exact hop _ _ a b
theorem filter_split (p : Nat → Bool) : ∀ l : List Nat, l.length = (l.filter p).length + (l.filter fun x => !p x).length
  | [] => rfl
  | a :: l => by
    have ih := filter_split p l
    rw [List.filter_cons, List.filter_cons]
    cases p a <;> simp <;> omega
theorem nodup_len : ∀ {n : Nat} {l : List Nat}, l.Nodup → (∀ x ∈ l, x < n) → l.length ≤ n
  | 0, [], _, _ => Nat.le_refl _
  | 0, x :: l, _, h => absurd (h x List.mem_cons_self) (Nat.not_lt_zero _)
  | n + 1, l, nd, h => by
    have h1 := nodup_len (n := n) (l := l.filter fun x => decide (x ≠ n)) (nd.filter _) fun x hx => by
      obtain ⟨a, b⟩ := List.mem_filter.mp hx
      have := h x a
      have : x ≠ n := of_decide_eq_true b
      omega
    have h2 : l.length ≤ (l.filter fun x => decide (x ≠ n)).length + 1 := by
      have h3 := filter_split (fun x => decide (x ≠ n)) l
      have h4 : (l.filter fun x => !decide (x ≠ n)).length ≤ 1 := by
        have nd2 := nd.filter fun x => !decide (x ≠ n)
        have all : ∀ x ∈ l.filter (fun x => !decide (x ≠ n)), x = n := fun x hx => by
          have := (List.mem_filter.mp hx).2
          simpa using this
        generalize l.filter (fun x => !decide (x ≠ n)) = m at nd2 all
        match m, nd2, all with
        | [], _, _ => exact Nat.zero_le _
        | [_], _, _ => exact Nat.le_refl _
        | a :: b :: r, nd2, all =>
          have e1 := all a (by simp)
          have e2 := all b (by simp)
          subst e1
          subst e2
          simp at nd2
      omega
    omega
theorem Clo.len {op : Nat → Nat → Nat} {vs F : List Nat} {i n : Nat} (hop : ∀ x y, x < n → y < n → op x y < n) (hv : ∀ x ∈ vs, x < n) (h : Clo op vs F i) : F.length ≤ n := nodup_len h.nd fun x hx => gen_lt hop hv (h.gen x hx)
theorem CloT.lt {op : Nat → Nat → Nat} {vs F0 F : List Nat} {i j n : Nat} (hop : ∀ x y, x < n → y < n → op x y < n) (hv : ∀ x ∈ vs, x < n) (h : CloT op vs F0 F i j) : ∀ x ∈ F, x < n := fun x hx => gen_lt hop hv (h.gen x hx)
/-! ### each item once -/
def once (l : List Nat) : List Nat := l.foldl addN []
theorem once_snoc (l : List Nat) (x : Nat) : once (l ++ [x]) = addN (once l) x := by
  unfold once
  rw [List.foldl_append]
  rfl
theorem foldl_addN : ∀ (l acc : List Nat), (acc ++ l).Nodup → l.foldl addN acc = acc ++ l
  | [], acc, _ => by simp
  | x :: l, acc, h => by
    have hx : x ∉ acc := by
      intro hm
      rw [List.nodup_append] at h
      exact h.2.2 x hm x List.mem_cons_self rfl
    have e : addN acc x = acc ++ [x] := if_neg hx
    show l.foldl addN (addN acc x) = _
    rw [e, foldl_addN l (acc ++ [x]) (by simpa using h)]
    simp
theorem once_nd {F : List Nat} (h : F.Nodup) : once F = F := by
  unfold once
  rw [foldl_addN F [] (by simpa using h)]
  rfl
theorem foldl_nd : ∀ (l acc : List Nat), acc.Nodup → (l.foldl addN acc).Nodup
  | [], _, h => h
  | x :: l, acc, h => foldl_nd l _ (addN_nd h)
theorem foldl_mem : ∀ (l acc : List Nat) (x : Nat), x ∈ l.foldl addN acc ↔ x ∈ acc ∨ x ∈ l
  | [], acc, x => by simp
  | y :: l, acc, x => by
    show x ∈ l.foldl addN (addN acc y) ↔ _
    rw [foldl_mem l _ x, List.mem_cons]
    constructor
    · rintro (h | h)
      · rcases addN_of h with h | h
        · exact .inl h
        · exact .inr (.inl h)
      · exact .inr (.inr h)
    · rintro (h | h | h)
      · exact .inl (addN_sub h)
      · exact .inl (h ▸ addN_mem)
      · exact .inr h
theorem once_nodup (l : List Nat) : (once l).Nodup := foldl_nd l [] (by simp)
theorem once_mem {l : List Nat} {x : Nat} : x ∈ once l ↔ x ∈ l := by
  unfold once
  rw [foldl_mem]
  simp
theorem once_two {F : List Nat} (h : F.Nodup) (x y : Nat) : once (F ++ [x, y]) = addN (addN F x) y := by
  have e : F ++ [x, y] = (F ++ [x]) ++ [y] := by simp
  rw [e, once_snoc, once_snoc, once_nd h]
theorem Clo.once {op : Nat → Nat → Nat} {vs : List Nat} : Clo op vs (once vs) 0 :=
  ⟨once_nodup vs, fun x hx => .base (once_mem.mp hx), fun x hx => once_mem.mpr hx, fun _ _ _ _ h => absurd h (Nat.not_lt_zero _)⟩
/-- the values of a list below n, ascending -/
def keptOf (n : Nat) (vs : List Nat) : List Nat := (List.range n).filter fun x => decide (x ∈ vs)
theorem kept_mem {n : Nat} {vs : List Nat} {x : Nat} : x ∈ keptOf n vs ↔ x < n ∧ x ∈ vs := by
  unfold keptOf
  rw [List.mem_filter, List.mem_range, decide_eq_true_iff]
theorem range_up (n : Nat) : (List.range n).Pairwise (· < ·) := List.pairwise_lt_range
theorem kept_up (n : Nat) (vs : List Nat) : (keptOf n vs).Pairwise (· < ·) := (range_up n).filter _
theorem up_nodup {L : List Nat} (h : L.Pairwise (· < ·)) : L.Nodup := h.imp fun h e => by omega
theorem Clo.kept {op : Nat → Nat → Nat} {n : Nat} {vs : List Nat} (hv : ∀ x ∈ vs, x < n) : Clo op vs (keptOf n vs) 0 :=
  ⟨up_nodup (kept_up n vs), fun x hx => .base (kept_mem.mp hx).2, fun x hx => kept_mem.mpr ⟨hv x hx, hx⟩, fun _ _ _ _ h => absurd h (Nat.not_lt_zero _)⟩
/-- the law's way to the same list: each once, sorted -/
theorem kept_sorted {n : Nat} {vs L : List Nat} (hv : ∀ x ∈ vs, x < n) (hp : L.Perm (once vs)) (hs : L.Pairwise (· ≤ ·)) : L = keptOf n vs :=
  up_unique (up_of_sorted hs (hp.nodup_iff.mpr (once_nodup vs))) (kept_up n vs) fun x => by
    rw [hp.mem_iff, once_mem, kept_mem]
    exact ⟨fun h => ⟨hv x h, h⟩, fun h => h.2⟩
/-- a list in another order, or with doubles, has the same kept values -/
theorem kept_congr {n : Nat} {vs ws : List Nat} (h : ∀ x, x ∈ vs ↔ x ∈ ws) : keptOf n vs = keptOf n ws :=
  up_unique (kept_up n vs) (kept_up n ws) fun x => by rw [kept_mem, kept_mem, h x]
end K28
end
section
namespace K28
/-! ### a table -/
def opOf (R : List (List Nat)) (a b : Nat) : Nat := (R.getD a []).getD b 0
structure TabOk (n : Nat) (R : List (List Nat)) : Prop where
  len : R.length = n
  row : ∀ r ∈ R, r.length = n ∧ ∀ x ∈ r, x < n
theorem getD_of {α : Type} {l : List α} {i : Nat} {d x : α} (h : l[i]? = some x) : l.getD i d = x := by
  rw [List.getD_eq_getElem?_getD, h]
  rfl
theorem TabOk.row_at {n : Nat} {R : List (List Nat)} (h : TabOk n R) {a : Nat} (ha : a < n) : R[a]? = some (R.getD a []) ∧ (R.getD a []).length = n := by
  have hl : a < R.length := by
    rw [h.len]
    exact ha
  have e : R[a]? = some R[a] := List.getElem?_eq_getElem hl
  have e2 : R.getD a [] = R[a] := getD_of e
  rw [e2]
  exact ⟨e, (h.row _ (List.getElem_mem _)).1⟩
theorem TabOk.at_ {n : Nat} {R : List (List Nat)} (h : TabOk n R) {a b : Nat} (ha : a < n) (hb : b < n) : (R.getD a [])[b]? = some (opOf R a b) := by
  have hl := (h.row_at ha).2
  have hl2 : b < (R.getD a []).length := by
    rw [hl]
    exact hb
  have e : (R.getD a [])[b]? = some (R.getD a [])[b] := List.getElem?_eq_getElem hl2
  rw [e]
  unfold opOf
  rw [getD_of e]
theorem TabOk.lt {n : Nat} {R : List (List Nat)} (h : TabOk n R) {a b : Nat} (ha : a < n) (hb : b < n) : opOf R a b < n := by
  have hr := (h.row_at ha).1
  exact (h.row _ (List.mem_of_getElem? hr)).2 _ (List.mem_of_getElem? (h.at_ ha hb))
/-- one entry changed -/
def setE (R : List (List Nat)) (a b c : Nat) : List (List Nat) := R.set a ((R.getD a []).set b c)
theorem TabOk.setE {n : Nat} {R : List (List Nat)} (h : TabOk n R) {a b c : Nat} (ha : a < n) (hc : c < n) : TabOk n (setE R a b c) := by
  have hr := h.row_at ha
  have hm := h.row _ (List.mem_of_getElem? hr.1)
  refine ⟨by unfold K28.setE; rw [List.length_set]; exact h.len, fun r hx => ?_⟩
  rcases List.mem_or_eq_of_mem_set hx with q | q
  · exact h.row r q
  · subst q
    refine ⟨by rw [List.length_set]; exact hm.1, fun x hx => ?_⟩
    rcases List.mem_or_eq_of_mem_set hx with q | q
    · exact hm.2 x q
    · exact q ▸ hc
/-! ### parts -/
def Closed (op : Nat → Nat → Nat) (ks : List Nat) : Prop := ∀ x ∈ ks, ∀ y ∈ ks, op x y ∈ ks
/-- (l, r) is the first pair whose sum is none of them -/
def FirstOpen (op : Nat → Nat → Nat) (ks : List Nat) (l r : Nat) : Prop :=
  ∃ i j : Nat, ks[i]? = some l ∧ ks[j]? = some r ∧ op l r ∉ ks ∧ (∀ (i' x y : Nat), i' < i → ks[i']? = some x → y ∈ ks → op x y ∈ ks) ∧ ∀ (j' y : Nat), j' < j → ks[j']? = some y → op l y ∈ ks
theorem FirstOpen.unique {op : Nat → Nat → Nat} {ks : List Nat} {l r l' r' : Nat} (a : FirstOpen op ks l r) (b : FirstOpen op ks l' r') : l = l' ∧ r = r' := by
  obtain ⟨i, j, h1, h2, h3, h4, h5⟩ := a
  obtain ⟨i', j', k1, k2, k3, k4, k5⟩ := b
  have e : i = i' := by
    rcases Nat.lt_trichotomy i i' with q | q | q
    · exact absurd (k4 i l r q h1 (List.mem_of_getElem? h2)) h3
    · exact q
    · exact absurd (h4 i' l' r' q k1 (List.mem_of_getElem? k2)) k3
  subst e
  rw [h1] at k1
  cases k1
  have e : j = j' := by
    rcases Nat.lt_trichotomy j j' with q | q | q
    · exact absurd (k5 j r q h2) h3
    · exact q
    · exact absurd (h5 j' r' q k2) k3
  subst e
  rw [h2] at k2
  cases k2
  exact ⟨rfl, rfl⟩
theorem FirstOpen.not {op : Nat → Nat → Nat} {ks : List Nat} {l r : Nat} (a : FirstOpen op ks l r) (c : Closed op ks) : False := by
  obtain ⟨i, j, h1, h2, h3, _, _⟩ := a
  exact h3 (c l (List.mem_of_getElem? h1) r (List.mem_of_getElem? h2))
theorem Gen.closed {op : Nat → Nat → Nat} {vs L : List Nat} (h : IsGen op vs L) : Closed op L := fun x hx y hy => (h.mem _).mpr (.step ((h.mem _).mp hx) ((h.mem _).mp hy))
/-- either closed, or there is a first open pair -/
theorem closed_or {op : Nat → Nat → Nat} {ks : List Nat} : Closed op ks ∨ ∃ l r, FirstOpen op ks l r := by
  have row : ∀ (l : Nat) (m : Nat), (∀ j y : Nat, j < m → ks[j]? = some y → op l y ∈ ks) ∨ ∃ j r : Nat, ks[j]? = some r ∧ op l r ∉ ks ∧ ∀ j' y : Nat, j' < j → ks[j']? = some y → op l y ∈ ks := by
    intro l m
    induction m with
    | zero => exact .inl fun j y h => absurd h (Nat.not_lt_zero _)
    | succ m ih =>
      rcases ih with ih | ih
      · cases e : ks[m]? with
        | none =>
          refine .inl fun j y hj hy => ?_
          by_cases q : j = m
          · subst q
            rw [e] at hy
            cases hy
          · exact ih j y (by omega) hy
        | some r =>
          by_cases q : op l r ∈ ks
          · refine .inl fun j y hj hy => ?_
            by_cases q2 : j = m
            · subst q2
              rw [e] at hy
              cases hy
              exact q
            · exact ih j y (by omega) hy
          · exact .inr ⟨m, r, e, q, ih⟩
      · exact .inr ih
  have all : ∀ m : Nat, (∀ i x y : Nat, i < m → ks[i]? = some x → y ∈ ks → op x y ∈ ks) ∨ ∃ l r, FirstOpen op ks l r := by
    intro m
    induction m with
    | zero => exact .inl fun i x y h => absurd h (Nat.not_lt_zero _)
    | succ m ih =>
      rcases ih with ih | ih
      · cases e : ks[m]? with
        | none =>
          refine .inl fun i x y hi hx hy => ?_
          by_cases q : i = m
          · subst q
            rw [e] at hx
            cases hx
          · exact ih i x y (by omega) hx hy
        | some l =>
          rcases row l ks.length with q | ⟨j, r, h1, h2, h3⟩
          · refine .inl fun i x y hi hx hy => ?_
            by_cases q2 : i = m
            · subst q2
              rw [e] at hx
              cases hx
              obtain ⟨jy, hjy⟩ := List.getElem?_of_mem hy
              exact q jy y (List.getElem?_eq_some_iff.mp hjy).1 hjy
            · exact ih i x y (by omega) hx hy
          · exact .inr ⟨l, r, m, j, e, h1, h2, ih, h3⟩
      · exact .inr ih
  rcases all ks.length with h | h
  · refine .inl fun x hx y hy => ?_
    obtain ⟨ix, hix⟩ := List.getElem?_of_mem hx
    exact h ix x y (List.getElem?_eq_some_iff.mp hix).1 hix hy
  · exact .inr h
/-- the table of the part: numbered anew -/
def partRows (op : Nat → Nat → Nat) (ks : List Nat) : List (List Nat) := ks.map fun a => ks.map fun b => ks.idxOf (op a b)
theorem idx_get {ks : List Nat} {x : Nat} (h : x ∈ ks) : ks[ks.idxOf x]? = some x := by
  have hl : ks.idxOf x < ks.length := List.idxOf_lt_length_of_mem h
  rw [List.getElem?_eq_getElem hl, List.getElem_idxOf hl]
theorem idx_lt {ks : List Nat} {x : Nat} (h : x ∈ ks) : ks.idxOf x < ks.length := List.idxOf_lt_length_of_mem h
theorem part_ok {op : Nat → Nat → Nat} {ks : List Nat} (c : Closed op ks) : TabOk ks.length (partRows op ks) := by
  refine ⟨by unfold partRows; rw [List.length_map], fun r hr => ?_⟩
  obtain ⟨a, ha, rfl⟩ := List.mem_map.mp hr
  refine ⟨by rw [List.length_map], fun x hx => ?_⟩
  obtain ⟨b, hb, rfl⟩ := List.mem_map.mp hx
  exact idx_lt (c a ha b hb)
theorem part_op {op : Nat → Nat → Nat} {ks : List Nat} {i j x y : Nat} (hx : ks[i]? = some x) (hy : ks[j]? = some y) : opOf (partRows op ks) i j = ks.idxOf (op x y) := by
  unfold opOf partRows
  rw [getD_of (x := ks.map fun b => ks.idxOf (op x b)) (by rw [List.getElem?_map, hx]; rfl), getD_of (x := ks.idxOf (op x y)) (by rw [List.getElem?_map, hy]; rfl)]
/-! ### rules, by their place among the nine -/
abbrev Eqn := List Nat × List Nat
def putRow (op : Nat → Nat → Nat) : List Nat → Nat
  | [] => 0
  | x :: r => r.foldl op x
/-- the equations of the k-th rule, grouping apart: as the program lists them -/
def eqsP (k x y z : Nat) : List Eqn := match k with
  | 0 => []
  | 1 => [([x, y], [y, x])]
  | 2 => [([x, y, x, z, x], [x, y, z, x]), ([x, x], [x])]
  | 3 => [([x, y, x], [x, y]), ([x, x], [x])]
  | 4 => [([x, y, x], [y, x]), ([x, x], [x])]
  | 5 => [([x, y, z], [x, z]), ([x, x], [x])]
  | 6 => [([x, y], [x])]
  | 7 => [([x, y], [y])]
  | _ => [([x, x, y], [y]), ([y, x, x], [y])]
/-- as the law lists them -/
def eqsL (k x y z : Nat) : List Eqn := match k with
  | 0 => []
  | 1 => [([x, y], [y, x])]
  | 2 => [([x, x], [x]), ([x, y, x, z, x], [x, y, z, x])]
  | 3 => [([x, x], [x]), ([x, y, x], [x, y])]
  | 4 => [([x, x], [x]), ([x, y, x], [y, x])]
  | 5 => [([x, x], [x]), ([x, y, z], [x, z])]
  | 6 => [([x, y], [x])]
  | 7 => [([x, y], [y])]
  | _ => [([x, x, y], [y]), ([y, x, x], [y])]
def grouped (k : Nat) : Bool := !(k == 1 || k == 6 || k == 7)
def eqHolds (op : Nat → Nat → Nat) (e : Eqn) : Bool := putRow op e.1 == putRow op e.2
def assocB (op : Nat → Nat → Nat) (x y z : Nat) : Bool := op (op x y) z == op x (op y z)
def holdsP (op : Nat → Nat → Nat) (k x y z : Nat) : Bool := (!grouped k || assocB op x y z) && (eqsP k x y z).all (eqHolds op)
def holdsL (op : Nat → Nat → Nat) (k x y z : Nat) : Bool := (!grouped k || assocB op x y z) && (eqsL k x y z).all (eqHolds op)
theorem all_swap {α : Type} (p : α → Bool) (a b : α) : [a, b].all p = [b, a].all p := by
  simp only [List.all_cons, List.all_nil, Bool.and_true]
  exact Bool.and_comm _ _
theorem holds_same (op : Nat → Nat → Nat) (k x y z : Nat) : holdsP op k x y z = holdsL op k x y z := by
  unfold holdsP holdsL
  congr 1
  match k with
  | 0 => rfl
  | 1 => rfl
  | 2 => exact all_swap _ _ _
  | 3 => exact all_swap _ _ _
  | 4 => exact all_swap _ _ _
  | 5 => exact all_swap _ _ _
  | 6 => rfl
  | 7 => rfl
  | _ + 8 => rfl
/-- the k-th rule is kept by the operation on the values below n -/
def Kept (op : Nat → Nat → Nat) (n k : Nat) : Prop := ∀ x y z, x < n → y < n → z < n → holdsP op k x y z = true
theorem foldl_hom {op op' : Nat → Nat → Nat} {e : Nat → Nat} {n : Nat} (hlt : ∀ a b, a < n → b < n → op' a b < n) (hom : ∀ a b, a < n → b < n → e (op' a b) = op (e a) (e b)) :
    ∀ (l : List Nat) (a : Nat), a < n → (∀ x ∈ l, x < n) → l.foldl op' a < n ∧ e (l.foldl op' a) = (l.map e).foldl op (e a)
  | [], a, ha, _ => ⟨ha, rfl⟩
  | x :: l, a, ha, h => by
    have hx := h x List.mem_cons_self
    obtain ⟨h1, h2⟩ := foldl_hom hlt hom l (op' a x) (hlt a x ha hx) fun y hy => h y (List.mem_cons_of_mem _ hy)
    refine ⟨h1, ?_⟩
    show e (l.foldl op' (op' a x)) = (l.map e).foldl op (op (e a) (e x))
    rw [h2, hom a x ha hx]
theorem putRow_hom {op op' : Nat → Nat → Nat} {e : Nat → Nat} {n : Nat} (hlt : ∀ a b, a < n → b < n → op' a b < n) (hom : ∀ a b, a < n → b < n → e (op' a b) = op (e a) (e b)) {l : List Nat} (hne : l ≠ []) (h : ∀ x ∈ l, x < n) :
    putRow op' l < n ∧ e (putRow op' l) = putRow op (l.map e) := by
  cases l with
  | nil => exact absurd rfl hne
  | cons a l => exact foldl_hom hlt hom l a (h a List.mem_cons_self) fun y hy => h y (List.mem_cons_of_mem _ hy)
theorem eqs_map (e : Nat → Nat) (k x y z : Nat) : eqsP k (e x) (e y) (e z) = (eqsP k x y z).map fun q => (q.1.map e, q.2.map e) := by
  match k with
  | 0 => rfl
  | 1 => rfl
  | 2 => rfl
  | 3 => rfl
  | 4 => rfl
  | 5 => rfl
  | 6 => rfl
  | 7 => rfl
  | _ + 8 => rfl
theorem eqs_in (k x y z : Nat) : ∀ q ∈ eqsP k x y z, (q.1 ≠ [] ∧ ∀ w ∈ q.1, w = x ∨ w = y ∨ w = z) ∧ (q.2 ≠ [] ∧ ∀ w ∈ q.2, w = x ∨ w = y ∨ w = z) := by
  match k with
  | 0 => intro q h; cases h
  | 1 => simp only [eqsP]; intro q h; simp at h; subst h; simp
  | 2 => simp only [eqsP]; intro q h; simp at h; rcases h with h | h <;> subst h <;> simp <;> omega
  | 3 => simp only [eqsP]; intro q h; simp at h; rcases h with h | h <;> subst h <;> simp <;> omega
  | 4 => simp only [eqsP]; intro q h; simp at h; rcases h with h | h <;> subst h <;> simp <;> omega
  | 5 => simp only [eqsP]; intro q h; simp at h; rcases h with h | h <;> subst h <;> simp <;> omega
  | 6 => simp only [eqsP]; intro q h; simp at h; subst h; simp
  | 7 => simp only [eqsP]; intro q h; simp at h; subst h; simp
  | _ + 8 => simp only [eqsP]; intro q h; simp at h; rcases h with h | h <;> subst h <;> simp
/-- a part keeps each rule that the whole keeps -/
theorem kept_part {op : Nat → Nat → Nat} {ks : List Nat} {n k : Nat} (nd : ks.Nodup) (c : Closed op ks) (hk : ∀ x ∈ ks, x < n) (h : Kept op n k) : Kept (opOf (partRows op ks)) ks.length k := by
  have hlt : ∀ a b, a < ks.length → b < ks.length → opOf (partRows op ks) a b < ks.length := fun a b ha hb => (part_ok c).lt ha hb
  have get : ∀ {a}, a < ks.length → ks[a]? = some (ks.getD a 0) := fun {a} ha => by
    have e : ks[a]? = some ks[a] := List.getElem?_eq_getElem ha
    rw [getD_of e]
    exact e
  have mem : ∀ {a}, a < ks.length → ks.getD a 0 ∈ ks := fun ha => List.mem_of_getElem? (get ha)
  have hom : ∀ a b, a < ks.length → b < ks.length → ks.getD (opOf (partRows op ks) a b) 0 = op (ks.getD a 0) (ks.getD b 0) := fun a b ha hb => by
    rw [part_op (get ha) (get hb)]
    exact getD_of (idx_get (c _ (mem ha) _ (mem hb)))
  have inj : ∀ a b, a < ks.length → b < ks.length → ks.getD a 0 = ks.getD b 0 → a = b := fun a b ha hb e => by
    have ga := get ha
    have gb := get hb
    rw [e] at ga
    obtain ⟨h1, e1⟩ := List.getElem?_eq_some_iff.mp ga
    obtain ⟨h2, e2⟩ := List.getElem?_eq_some_iff.mp gb
    exact (List.getElem_inj nd).mp (e1.trans e2.symm)
  intro x y z hx hy hz
  have H := h (ks.getD x 0) (ks.getD y 0) (ks.getD z 0) (hk _ (mem hx)) (hk _ (mem hy)) (hk _ (mem hz))
  unfold holdsP at H ⊢
  rw [Bool.and_eq_true] at H ⊢
  refine ⟨?_, ?_⟩
  · have H1 := H.1
    cases hg : grouped k with
    | false => rfl
    | true =>
      rw [hg] at H1
      have H2 : assocB op (ks.getD x 0) (ks.getD y 0) (ks.getD z 0) = true := H1
      have H3 := eq_of_beq H2
      show assocB _ x y z = true
      refine beq_iff_eq.mpr (inj _ _ (hlt _ _ (hlt _ _ hx hy) hz) (hlt _ _ hx (hlt _ _ hy hz)) ?_)
      rw [hom _ _ (hlt _ _ hx hy) hz, hom _ _ hx hy, hom _ _ hx (hlt _ _ hy hz), hom _ _ hy hz]
      exact H3
  · have H2 := H.2
    rw [eqs_map (fun a => ks.getD a 0) k x y z, List.all_map] at H2
    rw [List.all_eq_true] at H2 ⊢
    intro q hq
    obtain ⟨⟨n1, m1⟩, n2, m2⟩ := eqs_in k x y z q hq
    have b1 : ∀ w ∈ q.1, w < ks.length := fun w hw => by rcases m1 w hw with e | e | e <;> rw [e] <;> assumption
    have b2 : ∀ w ∈ q.2, w < ks.length := fun w hw => by rcases m2 w hw with e | e | e <;> rw [e] <;> assumption
    obtain ⟨l1, e1⟩ := putRow_hom (op := op) (e := fun a => ks.getD a 0) hlt hom n1 b1
    obtain ⟨l2, e2⟩ := putRow_hom (op := op) (e := fun a => ks.getD a 0) hlt hom n2 b2
    have H3 := eq_of_beq (show (putRow op (q.1.map fun a => ks.getD a 0) == putRow op (q.2.map fun a => ks.getD a 0)) = true from H2 q hq)
    show (putRow _ q.1 == putRow _ q.2) = true
    refine beq_iff_eq.mpr (inj _ _ l1 l2 ?_)
    rw [← e1, ← e2] at H3
    exact H3
end K28
end
section
namespace K28
open PySem PySem.Spec L2 PyProof.Rows
def top (i : Nat) : Stmt := PySem.Challenge.pw_foldplans_k28_whole_parts_of_tables.main.body.getD i (.Pass ⟨0, 0, 0, 0⟩)
/-! ### readings by names -/
def rAddK : R2 := rI0 fun i j => .int (i + j)
def rSubK : R2 := rI0 fun i j => .int (i - j)
def rMulK : R2 := rI (fun i j => (-(2 ^ 64) < i ∧ i < 2 ^ 64) ∨ (-(2 ^ 64) < j ∧ j < 2 ^ 64)) fun i j => .int (i * j)
def rModK : R2 := rI (fun _ j => 0 < j) fun i j => .int (i % j)
def rDivK : R2 := rI CDivW fun i j => .int (i / j)
def rPowK : R2 := rI CPow fun i j => .int (i ^ j.toNat)
def rLtK : R2 := rI0 fun i j => .bl (decide (i < j))
def rLeK : R2 := rI0 fun i j => .bl (decide (i ≤ j))
def rGtK : R2 := rI0 fun i j => .bl (decide (i > j))
def rGeK : R2 := rI0 fun i j => .bl (decide (i ≥ j))
def rNegK : V → Hp → VK → Prop := rU fun i => .int (-i)
def rCatS : R2 := fun x y H Q => ∃ i j, x = .str i ∧ y = .str j ∧ i.length + j.length ≤ sizeLine ∧ Q (.str (i ++ j)) H
def rMulS : R2 := fun x y H Q => ∃ (z : Str) (i : Int), x = .str z ∧ y = .int i ∧ (i = 0 ∨ i = 1) ∧ z.length ≤ 1000 ∧ Q (.str (if i = 1 then z else Str.empty)) H
def rOutR : R2 := fun x y H Q => ∃ i a lo hi, x = V.int i ∧ y = V.ref a ∧ H a = some (.rng lo hi) ∧ Q (.bl (!decide (lo ≤ i ∧ i < hi))) H
def rRngV : List V → Hp → VK → Prop := fun vs H Q => ∃ j, vs = [V.int j] ∧ ∀ p, H p = none → Q (.ref p) (upd H p (.rng 0 j))
def rNotSign : R2 := fun x y H Q => ∃ (c : Nat) (z : Str), x = .str ⟨#[c]⟩ ∧ y = .str z ∧ Q (.bl (!decide (c ∈ z.cps.toList))) H
def rIsNK : R2 := fun x y H Q => y = .non ∧ Q (.bl (decide (x = .non))) H
def rNotNK : R2 := fun x y H Q => y = .non ∧ Q (.bl (!decide (x = .non))) H
def rTupS (K : PySem.W.Frag) : List V → Hp → VK → Prop := fun xs H Q => ∃ p ys, xs = [.ref p] ∧ ((SqL K H p ys ∧ ∀ l, H l = none → Q (.ref l) (upd H l (.tup ys))) ∨ (SqT K H p ys ∧ Q (.ref p) H))
def rAbsK : List V → Hp → VK → Prop := fun xs H Q => ∃ i, xs = [.int i] ∧ Q (.int (if i < 0 then -i else i)) H
def rMin2 : List V → Hp → VK → Prop := fun xs H Q => ∃ i j, xs = [.int i, .int j] ∧ Q (.int (if j < i then j else i)) H
def rInt1 : List V → Hp → VK → Prop := fun xs H Q => (∃ i, xs = [.int i] ∧ Q (.int i) H) ∨ ∃ k, xs = [.bl k] ∧ Q (.int (if k then 1 else 0)) H
def rStrI : List V → Hp → VK → Prop := fun xs H Q => ∃ i, xs = [.int i] ∧ i.natAbs.log2 < 1920 ∧ Q (.str (toString i)) H
def rReprL (K : PySem.W.Frag) : List V → Hp → VK → Prop := fun xs H Q => ∃ p ds, xs = [.ref p] ∧ Dp K H (.ref p) (.list ds) ∧ (PyData.list ds).showable = true ∧ (PyData.list ds).hasDict = false ∧
  (PyData.list ds).depth ≤ 4 ∧ (PyData.list ds).shown.length ≤ sizeLine ∧ Q (.str (PyData.list ds).shown) H
def rJoinK (K : PySem.W.Frag) : V → List V → Hp → VK → Prop := fun x xs H Q => ∃ a p, ∃ ys : List Str, x = .str a ∧ xs = [.ref p] ∧ (SqL K H p (ys.map V.str) ∨ SqT K H p (ys.map V.str)) ∧
  (ys.map (·.length)).sum + ys.length * a.length ≤ 16777216 ∧ Q (.str (Txt.join a ys)) H
def rRaise (E : XK) (t : L2.St → Hp → XK → Prop) : TS := fun _ σ H => t σ H fun cls d H' => E cls d H'
/-! ### walking a list or a tuple -/
def iSeqV (K : PySem.W.Frag) (tl : TE) : TI := fun σ H R => tl σ H fun x H1 => ∃ a, x = .ref a ∧ (((∃ xs, SqL K H1 a xs) ∧ R (Itl K a) H1) ∨ ((∃ xs, SqT K H1 a xs) ∧ R (Itt K a) H1))
section
variable {X : Cx} {tg e : Expr} {te tf : TE} {t : TA} {f : Expr} {p pos : Pos}
theorem pi_seqv (he : PE X e te) : PI X tg e (iSeqV X.K te) := by
  refine ⟨fun pins s σ H R I h => thn (he.run pins s σ H _ I h) fun v s1 ⟨x, H1, I1, r1, q1⟩ => ?_⟩
  obtain ⟨a, rfl, ⟨⟨xs, hx⟩, q⟩ | ⟨⟨xs, hx⟩, q⟩⟩ := q1
  · cases r1
    have one : PI X tg e (iList X.K te) := pi_list he
    obtain ⟨its, rv, pl, _⟩ := I1.list hx
    refine wpAny_pyIter_list pl.isList ⟨s1.heap.objs.size, [s1.heap.objs.size], _, _, H1, rfl, I1.kept (t' := s1.toks) fun _ _ o => Heap.get?_push_of_some _ o, turn_list a _, ⟨_, Heap.get?_push_size _ rfl, rfl, rfl⟩, fun b hb => ?_, q⟩
    have hb2 := List.mem_singleton.mp hb
    subst hb2
    exact ⟨I1.hok.fresh (Nat.le_refl _), (I1.fpOk (Nat.le_refl _) (I1.hok.fresh (Nat.le_refl _))).2⟩
  · cases r1
    obtain ⟨its, rv, pl, _⟩ := I1.tuple hx
    refine wpAny_pyIter_tuple (show s1.heap.IsTuple a its.toArray from pl) ⟨s1.heap.objs.size, [s1.heap.objs.size], _, _, H1, rfl, I1.kept (t' := s1.toks) fun _ _ o => Heap.get?_push_of_some _ o, turn_tuple a _, ⟨_, Heap.get?_push_size _ rfl, rfl, rfl⟩, fun b hb => ?_, q⟩
    have hb2 := List.mem_singleton.mp hb
    subst hb2
    exact ⟨I1.hok.fresh (Nat.le_refl _), (I1.fpOk (Nat.le_refl _) (I1.hok.fresh (Nat.le_refl _))).2⟩
end
/-! ### calls of built-ins in short -/
theorem boot_repr : bootBuiltins "repr" = some (.builtin "repr") := by decide +kernel
theorem boot_min : bootBuiltins "min" = some (.builtin "min") := by decide +kernel
theorem boot_max : bootBuiltins "max" = some (.builtin "max") := by decide +kernel
theorem bt_list : bootBuiltins "list" = some (.type "list") := by decide +kernel
theorem bt_tuple : bootBuiltins "tuple" = some (.type "tuple") := by decide +kernel
theorem bt_int : bootBuiltins "int" = some (.type "int") := by decide +kernel
theorem bt_str : bootBuiltins "str" = some (.type "str") := by decide +kernel
theorem boot_sorted : bootBuiltins "sorted" = some (.builtin "sorted") := by decide +kernel
section
variable {X : Cx} {e f : Expr} {te tf : TE} {t : TA} {p pos : Pos}
theorem c_len (hm : X.mg "len" = none) (ha : PE X e te) (hg : Gl X "len" := by rfl) (hs : starEach [e] X.env = (false, eval e X.env) :: starEach [] X.env := by rfl) : PE X (.Call (.Name "len" p) [e] [] pos) (tCB (Evl.rLenS X.K) (tCons te tNil)) :=
  pe_callB call_len_seq hg hm boot_len (pa_cons ha pa_nil hs) (by decide) (by decide) hs rfl
theorem c_abs (hm : X.mg "abs" = none) (ha : PE X e te) (hg : Gl X "abs" := by rfl) (hs : starEach [e] X.env = (false, eval e X.env) :: starEach [] X.env := by rfl) : PE X (.Call (.Name "abs" p) [e] [] pos) (tCB rAbsK (tCons te tNil)) :=
  pe_callB call_abs hg hm boot_abs (pa_cons ha pa_nil hs) (by decide) (by decide) hs rfl
theorem c_sorted (hm : X.mg "sorted" = none) (ha : PE X e te) (hg : Gl X "sorted" := by rfl) (hs : starEach [e] X.env = (false, eval e X.env) :: starEach [] X.env := by rfl) : PE X (.Call (.Name "sorted" p) [e] [] pos) (tCB (rSorted X.K) (tCons te tNil)) :=
  pe_callB cr_sorted hg hm boot_sorted (pa_cons ha pa_nil hs) (by decide) (by decide) hs rfl
theorem c_list (hm : X.mg "list" = none) (ha : PE X e te) (hg : Gl X "list" := by rfl) (hs : starEach [e] X.env = (false, eval e X.env) :: starEach [] X.env := by rfl) : PE X (.Call (.Name "list" p) [e] [] pos) (tCB (Evl.rListS X.K) (tCons te tNil)) :=
  pe_callTy call_list_of hg hm bt_list (pa_cons ha pa_nil hs) (by decide) (by decide) hs rfl
theorem c_tuple (hm : X.mg "tuple" = none) (ha : PE X e te) (hg : Gl X "tuple" := by rfl) (hs : starEach [e] X.env = (false, eval e X.env) :: starEach [] X.env := by rfl) : PE X (.Call (.Name "tuple" p) [e] [] pos) (tCB (rTupS X.K) (tCons te tNil)) :=
  pe_callTy call_tuple_of hg hm bt_tuple (pa_cons ha pa_nil hs) (by decide) (by decide) hs rfl
theorem c_int (hm : X.mg "int" = none) (ha : PE X e te) (hg : Gl X "int" := by rfl) (hs : starEach [e] X.env = (false, eval e X.env) :: starEach [] X.env := by rfl) : PE X (.Call (.Name "int" p) [e] [] pos) (tCB rInt1 (tCons te tNil)) :=
  pe_callTy call_int1 hg hm bt_int (pa_cons ha pa_nil hs) (by decide) (by decide) hs rfl
theorem c_str (hm : X.mg "str" = none) (ha : PE X e te) (hg : Gl X "str" := by rfl) (hs : starEach [e] X.env = (false, eval e X.env) :: starEach [] X.env := by rfl) : PE X (.Call (.Name "str" p) [e] [] pos) (tCB rStrI (tCons te tNil)) :=
  pe_callTy call_str_int hg hm bt_str (pa_cons ha pa_nil hs) (by decide) (by decide) hs rfl
theorem c_rangev (hm : X.mg "range" = none) (ha : PE X e te) (hg : Gl X "range" := by rfl) (hs : starEach [e] X.env = (false, eval e X.env) :: starEach [] X.env := by rfl) : PE X (.Call (.Name "range" p) [e] [] pos) (tCB rRngV (tCons te tNil)) :=
  pe_callTy cr_range_n hg hm (by decide +kernel) (pa_cons ha pa_nil hs) (by decide) (by decide) hs rfl
theorem c_min (hm : X.mg "min" = none) (ha : PE X e te) (hb : PE X f tf) (hc : X.calm = true := by rfl) (hg : Gl X "min" := by rfl) (hs : starEach [e, f] X.env = (false, eval e X.env) :: starEach [f] X.env := by rfl) (hs2 : starEach [f] X.env = (false, eval f X.env) :: starEach [] X.env := by rfl)
    (hpl : (backTo pos (starEach [f] X.env)).any (·.1) = false := by rfl) : PE X (.Call (.Name "min" p) [e, f] [] pos) (tCB rMin2 (tCons te (tCons tf tNil))) :=
  pe_callB (call_min2 hc) hg hm boot_min (pa_cons ha (pa_cons hb pa_nil hs2) hs) (by decide) (by decide) hs hpl
theorem c_max (hm : X.mg "max" = none) (ha : PE X e te) (hb : PE X f tf) (hc : X.calm = true := by rfl) (hg : Gl X "max" := by rfl) (hs : starEach [e, f] X.env = (false, eval e X.env) :: starEach [f] X.env := by rfl) (hs2 : starEach [f] X.env = (false, eval f X.env) :: starEach [] X.env := by rfl)
    (hpl : (backTo pos (starEach [f] X.env)).any (·.1) = false := by rfl) : PE X (.Call (.Name "max" p) [e, f] [] pos) (tCB Evl.rMax2 (tCons te (tCons tf tNil))) :=
  pe_callB (call_max2 hc) hg hm boot_max (pa_cons ha (pa_cons hb pa_nil hs2) hs) (by decide) (by decide) hs hpl
theorem g_tup {x : Str} {a : Addr} (hm : X.mg x = some (.ref a)) (hg : Gl X x := by rfl) (hdb : (x == ("__debug__" : Str)) = false := by decide) : PE X (.Name x p) (tC (.ref a)) := pe_glob hg hm rfl hdb
theorem un65 {k : Nat} {A : Around} (r : Room k A) : A.units + 65 < cLine := by
  have := r.un
  omega
theorem hu10 {k : Nat} {A : Around} (r : Room k A) : A.units + 10 < cLine := by
  have := r.un
  omega
end
/-! ### facts of the written part -/
def frees : List Str := ["range", "len", "list", "sorted", "enumerate", "min", "max", "int", "abs", "str", "repr", "tuple", "isinstance", "super", "ValueError"]
def globs1 : List Str := ["FoldError", "BadValue", "BadSize", "NotClosed", "RULES", "GROUPED", "IDLE", "put_row", "equations_of", "holds_for", "Table", "_law_pen", "_law_draw", "_law_pick", "_law_shuffled", "_law_nine", "_law_few", "_law_from_left"]
def globs2 : List Str := ["_law_equal_sides", "_law_triple_holds", "_law_first_break", "_law_rules_kept", "_law_shortened", "_law_word_rows", "_law_base_rows", "_law_twisted_rows", "_law_rows_drawn", "_law_table_of_rows", "_law_rows_of_table", "_law_closed_values", "_law_once", "_law_rows_text", "_law_tried", "_law_open_pair", "_law_part_right", "law"]
def globs : List Str := globs1 ++ globs2
def meths : List Str := ["check", "generated", "part", "rules", "breaks"]
abbrev cTab (K : PySem.W.Frag) : Addr := He.ga K "Table"
abbrev mTab (K : PySem.W.Frag) (m : Str) : Addr := He.ma K (He.ga K "Table") m
def exs : List Str := ["BadValue", "BadSize", "NotClosed"]
/-- the program's exception classes -/
structure ExT (K : PySem.W.Frag) (x : Str) : Prop where
  oex : OexC K (He.ga K x)
  init : PySem.W.findIn K (.ref (He.ga K x)) "__init__" = some (some (.ref (He.ma K (He.ga K x) "__init__")))
  ty : PySem.W.typeIn K (.ref (He.ma K (He.ga K x) "__init__")) = some (.type "function")
  xf : XfC K (He.ga K x)
  exc : ExcC K (He.ga K x)
  exm : ∀ y, y ∈ exs → PySem.W.exmOne K (.ref (He.ga K x)) (.ref (He.ga K y)) = some (decide (x = y))
  kit : ∀ y, y ∈ exs → PySem.W.kitOne K (.ref (He.ga K x)) (.ref (He.ga K y)) = some (decide (x = y))
  kitF : PySem.W.kitOne K (.ref (He.ga K x)) (.ref (He.ga K "FoldError")) = some true
  kitV : PySem.W.kitOne K (.ref (He.ga K x)) (.type "ValueError") = some true
structure Txt (P : Program) (K : PySem.W.Frag) (mg : Str → Option Value) : Prop where
  free : ∀ x, x ∈ frees → mg x = none
  glo : ∀ x, x ∈ globs → mg x = some (.ref (He.ga K x))
  largest : ∃ t, mg "LARGEST" = some (.int 60 t)
  rules : ∀ H, SqT K H (He.ga K "RULES") [.str "grouping", .str "order", .str "middle", .str "first", .str "last", .str "ends", .str "keep", .str "take", .str "vanish"]
  grouped : ∀ H, SqT K H (He.ga K "GROUPED") [.str "grouping", .str "middle", .str "first", .str "last", .str "ends", .str "vanish"]
  idle : ∀ H, SqT K H (He.ga K "IDLE") [.str "middle", .str "first", .str "last", .str "ends"]
  cls : Cls K (cTab K)
  size : NoAttr K (cTab K) "size"
  rows : NoAttr K (cTab K) "rows"
  meth : ∀ m, m ∈ meths → Meth K (cTab K) m (mTab K m)
  mkr : Mk K (cTab K) (mTab K "__init__")
  get : PySem.W.findIn K (.ref (cTab K)) "__getitem__" = some (some (.ref (mTab K "__getitem__"))) ∧ PySem.W.fnIn K (mTab K "__getitem__") = true ∧ PySem.W.isFn K (.ref (mTab K "__getitem__")) = true
  set : PySem.W.findIn K (.ref (cTab K)) "__setitem__" = some (some (.ref (mTab K "__setitem__"))) ∧ PySem.W.noSeq K (cTab K) = true ∧ PySem.W.isFn K (.ref (mTab K "__setitem__")) = true
  str : PySem.W.findIn K (.ref (cTab K)) "__str__" = some (some (.ref (mTab K "__str__"))) ∧ PySem.W.isFn K (.ref (mTab K "__str__")) = true
  exc : ∀ x, x ∈ exs → ExT K x
  fval : PySem.W.findIn K (.ref (He.ga K "BadValue")) "value" = some none
  fsize : PySem.W.findIn K (.ref (He.ga K "BadSize")) "size" = some none
  fleft : PySem.W.findIn K (.ref (He.ga K "NotClosed")) "left" = some none
  fright : PySem.W.findIn K (.ref (He.ga K "NotClosed")) "right" = some none
/-- a def at f that keeps sp, called with all its parameters -/
structure Good (P : Program) (w : World) (K : PySem.W.Frag) (mg : Str → Option Value) (base : Heap) (k : Nat) (f : Addr) (ps : List Str) (sp : Sp) : Prop where
  ex : ∃ fd, FnOk P w K mg base (L2.CX P w) k f fd ps sp ∧ L2.Binds K fd ps []
  kp : PySem.W.keepIn K (.ref f) = true
/-- called with a None left out at the end -/
structure Good1 (P : Program) (w : World) (K : PySem.W.Frag) (mg : Str → Option Value) (base : Heap) (k : Nat) (f : Addr) (ps : List Str) (sp : Sp) : Prop where
  ex : ∃ fd ds, FnOk P w K mg base (L2.CX P w) k f fd ps sp ∧ L2.Binds K fd ps ds ∧ Vals [.non] ds
section
variable {X : Cx} {e : Expr} {es : List Expr} {te ta tb : TE} {t : TA} {p pos : Pos} {k : Nat} {f : Addr} {ps : List Str} {sp : Sp} {E : XK}
theorem f_call {x : Str} (T : Txt X.prog X.K X.mg) (G : Good X.prog X.w X.K X.mg X.base k f ps sp) (hr : Room k X.A) (hm : X.mg x = some (.ref f)) (ha : PA X (e :: es) t) (hg : Gl X x := by rfl) (hdb : (x == ("__debug__" : Str)) = false := by decide)
    (he : starEach (e :: es) X.env = (false, eval e X.env) :: starEach es X.env := by rfl) (hpl : (backTo pos (starEach es X.env)).any (·.1) = false := by rfl) : PE X (.Call (.Name x p) (e :: es) [] pos) (tCall sp [] E0 t) := by
  obtain ⟨fd, F, b⟩ := G.ex
  exact pe_call F hr hg hm G.kp b .nil passL ha hdb he hpl
theorem f_call0 {x : Str} (T : Txt X.prog X.K X.mg) (G : Good X.prog X.w X.K X.mg X.base k f ps sp) (hr : Room k X.A) (hm : X.mg x = some (.ref f)) (hg : Gl X x := by rfl) (hdb : (x == ("__debug__" : Str)) = false := by decide) : PE X (.Call (.Name x p) [] [] pos) (tCall sp [] E0 tNil) := by
  obtain ⟨fd, F, b⟩ := G.ex
  exact pe_call0 F hr hg hm G.kp b .nil passL hdb
theorem o_meth {o : Expr} {m : Str} {apos : Pos} {pl : Sem Bool} (T : Txt X.prog X.K X.mg) (hm : m ∈ meths) (G : Good X.prog X.w X.K X.mg X.base k (mTab X.K m) ps sp) (hr : Room k X.A) (hx : Passes (L2.CX X.prog X.w) X E) (ho : PE X o ta) (ha : PA X (e :: es) t)
    (hst : starEach (e :: es) X.env = (false, eval e X.env) :: starEach es X.env := by rfl) (hpl : (backTo pos (starEach es X.env)).any (·.1) = false := by rfl)
    (ht : eval (.Call (.Attribute o m apos) (e :: es) [] pos) X.env = (do
      let ov ← eval o X.env
      standAt apos.atName
      let (f, first) ← holding [ov] (getMethod ov m pl)
      callWith pos f first (backTo pos (starEach (e :: es) X.env)) (backToKw pos (keywordEach [] X.env))) := by rfl) : PE X (.Call (.Attribute o m apos) (e :: es) [] pos) (tMeth (cTab X.K) m sp [] E ta t) := by
  obtain ⟨fd, F, b⟩ := G.ex
  exact pe_meth ho T.cls (T.meth m hm) F hr b .nil hx ha hst hpl ht
theorem o_meth0 {o : Expr} {m : Str} {apos : Pos} {pl : Sem Bool} (T : Txt X.prog X.K X.mg) (hm : m ∈ meths) (G : Good X.prog X.w X.K X.mg X.base k (mTab X.K m) ps sp) (hr : Room k X.A) (hx : Passes (L2.CX X.prog X.w) X E) (ho : PE X o ta)
    (ht : eval (.Call (.Attribute o m apos) [] [] pos) X.env = (do
      let ov ← eval o X.env
      standAt apos.atName
      let (f, first) ← holding [ov] (getMethod ov m pl)
      callWith pos f first (backTo pos (starEach [] X.env)) (backToKw pos (keywordEach [] X.env))) := by rfl) : PE X (.Call (.Attribute o m apos) [] [] pos) (tMeth (cTab X.K) m sp [] E ta tNil) := by
  obtain ⟨fd, F, b⟩ := G.ex
  exact pe_meth0 ho T.cls (T.meth m hm) F hr b .nil hx ht
theorem o_get {o i : Expr} (T : Txt X.prog X.K X.mg) (G : Good X.prog X.w X.K X.mg X.base k (mTab X.K "__getitem__") ps sp) (hr : Room (k + 1) X.A) (hx : Passes (L2.CX X.prog X.w) X E) (ho : PE X o ta) (hi : PE X i tb)
    (hsl : ∀ o' i', subscripted i true o' i' = runValue (.builtin "lifetime.subscript" ⟨[o', i'], []⟩) := by intro _ _; with_unfolding_all rfl) : PE X (.Subscript o i pos) (tOwnGet (cTab X.K) sp E ta tb) := by
  obtain ⟨fd, F, b⟩ := G.ex
  exact pe_ownget ho hi T.get.1 T.get.2.1 T.get.2.2 F b hr hx hsl
theorem o_set (T : Txt X.prog X.K X.mg) (G : Good X.prog X.w X.K X.mg X.base k (mTab X.K "__setitem__") ps sp) (hr : Room k X.A) (hx : Passes (L2.CX X.prog X.w) X E) : PSet X (rOwnSet (cTab X.K) sp E) := by
  obtain ⟨fd, F, b⟩ := G.ex
  exact set_own T.set.1 T.set.2.1 T.set.2.2 F b hr hx
theorem o_str (T : Txt X.prog X.K X.mg) (G : Good X.prog X.w X.K X.mg X.base k (mTab X.K "__str__") ps sp) (hr : Room (k + 2) X.A) (ha : PE X e te) (hm : X.mg "str" = none) (hg : Gl X "str" := by rfl)
    (hs : starEach [e] X.env = (false, eval e X.env) :: starEach [] X.env := by rfl) : PE X (.Call (.Name "str" p) [e] [] pos) (tCB (rOwnStr (cTab X.K) sp E0) (tCons te tNil)) := by
  obtain ⟨fd, F, b⟩ := G.ex
  exact pe_callTy (call_ownstr T.str.1 T.str.2 F b hr passL) hg hm bt_str (pa_cons ha pa_nil hs) (by decide) (by decide) hs rfl
theorem o_make2 (T : Txt X.prog X.K X.mg) (G : Good X.prog X.w X.K X.mg X.base k (mTab X.K "__init__") ps sp) (hr : Room (k + 1) X.A) (hx : Passes (L2.CX X.prog X.w) X E) (ha : PA X (e :: es) t) (hm : X.mg "Table" = some (.ref (cTab X.K))) (hg : Gl X "Table" := by rfl)
    (he : starEach (e :: es) X.env = (false, eval e X.env) :: starEach es X.env := by rfl) (hpl : (backTo pos (starEach es X.env)).any (·.1) = false := by rfl) : PE X (.Call (.Name "Table" p) (e :: es) [] pos) (tMake (cTab X.K) sp [] E t) := by
  obtain ⟨fd, F, b⟩ := G.ex
  exact pe_make T.mkr F hr hg hm b .nil hx ha (by decide) he hpl
theorem o_make1 (T : Txt X.prog X.K X.mg) (G : Good1 X.prog X.w X.K X.mg X.base k (mTab X.K "__init__") ps sp) (hr : Room (k + 1) X.A) (hx : Passes (L2.CX X.prog X.w) X E) (ha : PA X (e :: es) t) (hm : X.mg "Table" = some (.ref (cTab X.K))) (hg : Gl X "Table" := by rfl)
    (he : starEach (e :: es) X.env = (false, eval e X.env) :: starEach es X.env := by rfl) (hpl : (backTo pos (starEach es X.env)).any (·.1) = false := by rfl) : PE X (.Call (.Name "Table" p) (e :: es) [] pos) (tMake (cTab X.K) sp [.non] E t) := by
  obtain ⟨fd, ds, F, b, v⟩ := G.ex
  exact pe_make T.mkr F hr hg hm b v hx ha (by decide) he hpl
theorem g_largest (T : Txt X.prog X.K X.mg) (hg : Gl X "LARGEST" := by rfl) : PE X (.Name "LARGEST" p) (tC (.int 60)) := by
  obtain ⟨t, h⟩ := T.largest
  exact pe_glob hg h ⟨t, rfl⟩ (by decide)
theorem thru (tk : Takes X (fun cls d _ H => E cls d H)) : Passes (L2.CX X.prog X.w) X E := passes_call tk fun _ _ _ _ h => h
/-- C(e, ..) raised -/
theorem x_make {x : Str} {es : List Expr} (T : Txt X.prog X.K X.mg) (hx : x ∈ exs) (G : Good X.prog X.w X.K X.mg X.base k (He.ma X.K (He.ga X.K x) "__init__") ps sp) (hr : Room (k + 1) X.A) (ha : PA X (e :: es) t) (hm : X.mg x = some (.ref (He.ga X.K x))) (hg : Gl X x := by rfl)
    (hdb : (x == ("__debug__" : Str)) = false := by decide) (he : starEach (e :: es) X.env = (false, eval e X.env) :: starEach es X.env := by rfl) (hpl : (backTo pos (starEach es X.env)).any (·.1) = false := by rfl) :
    PMk X (.Call (.Name x p) (e :: es) [] pos) (tMkO (He.ga X.K x) sp [] t) := by
  obtain ⟨fd, F, b⟩ := G.ex
  have E := T.exc x hx
  exact pmk_oex E.oex E.init E.ty F hr b .nil passL hg hm ha hdb he hpl
theorem l_append {o : Expr} {apos : Pos} {to : TE} (ho : PE X o to) (ha : PA X (e :: es) t)
    (hbase : attributeBase o "append" X.env (eval o X.env) = eval o X.env := by rfl)
    (hfew : ((backTo pos (starEach (e :: es) X.env)).all (fun x => !x.1) && (backToKw pos (keywordEach [] X.env)).all (fun x => x.1.isSome)
      && decide ((e :: es).length + ([] : List Keyword).length + (if ([] : List Keyword).isEmpty then 0 else 1) < 30)) = true := by rfl)
    (hline : (apos.endLine == pos.line) = true := by rfl) (hs : starEach (e :: es) X.env = (false, eval e X.env) :: starEach es X.env := by rfl) (hpl : (backTo pos (starEach es X.env)).any (·.1) = false := by rfl) :
    PE X (.Call (.Attribute o "append" apos) (e :: es) [] pos) (tBM X.K "list" rAppend to t) := pe_bm PySem.F.plainAttrs_list PySem.F.slot_list_append PySem.F.type_list_append mt_append ho ha hbase hfew hline hs hpl
theorem l_pop {o : Expr} {apos : Pos} {to : TE} (ho : PE X o to) (ha : PA X (e :: es) t)
    (hbase : attributeBase o "pop" X.env (eval o X.env) = eval o X.env := by rfl)
    (hfew : ((backTo pos (starEach (e :: es) X.env)).all (fun x => !x.1) && (backToKw pos (keywordEach [] X.env)).all (fun x => x.1.isSome)
      && decide ((e :: es).length + ([] : List Keyword).length + (if ([] : List Keyword).isEmpty then 0 else 1) < 30)) = true := by rfl)
    (hline : (apos.endLine == pos.line) = true := by rfl) (hs : starEach (e :: es) X.env = (false, eval e X.env) :: starEach es X.env := by rfl) (hpl : (backTo pos (starEach es X.env)).any (·.1) = false := by rfl) :
    PE X (.Call (.Attribute o "pop" apos) (e :: es) [] pos) (tBM X.K "list" rPopAt to t) := pe_bm PySem.F.plainAttrs_list PySem.F.slot_list_pop PySem.F.type_list_pop mt_popAt ho ha hbase hfew hline hs hpl
theorem l_index {o : Expr} {apos : Pos} {to : TE} (hu : X.A.units + 65 < cLine) (ho : PE X o to) (ha : PA X (e :: es) t)
    (hbase : attributeBase o "index" X.env (eval o X.env) = eval o X.env := by rfl)
    (hfew : ((backTo pos (starEach (e :: es) X.env)).all (fun x => !x.1) && (backToKw pos (keywordEach [] X.env)).all (fun x => x.1.isSome)
      && decide ((e :: es).length + ([] : List Keyword).length + (if ([] : List Keyword).isEmpty then 0 else 1) < 30)) = true := by rfl)
    (hline : (apos.endLine == pos.line) = true := by rfl) (hs : starEach (e :: es) X.env = (false, eval e X.env) :: starEach es X.env := by rfl) (hpl : (backTo pos (starEach es X.env)).any (·.1) = false := by rfl) :
    PE X (.Call (.Attribute o "index" apos) (e :: es) [] pos) (tBM X.K "list" (rIndexD X.K) to t) := pe_bm PySem.F.plainAttrs_list PySem.F.slot_list_index PySem.F.type_list_index (mt_indexD hu) ho ha hbase hfew hline hs hpl
end
end K28
end
section
namespace K28
open PySem PySem.Spec L2 PyProof.Rows
abbrev Ex := Evl.Ex
/-- all that is tracked stays, but at S -/
def Fr (S : Addr → Prop) (H H' : Hp) : Prop := ∀ a o, H a = some o → ¬ S a → H' a = some o
def nI (l : List Nat) : List V := l.map fun (n : Nat) => V.int (n : Int)
def iI (l : List Int) : List V := l.map V.int
/-- the k-th of the nine -/
def ruleS (k : Nat) : Str := match k with
  | 0 => "grouping"
  | 1 => "order"
  | 2 => "middle"
  | 3 => "first"
  | 4 => "last"
  | 5 => "ends"
  | 6 => "keep"
  | 7 => "take"
  | _ => "vanish"
def nine : List V := [.str "grouping", .str "order", .str "middle", .str "first", .str "last", .str "ends", .str "keep", .str "take", .str "vanish"]
structure RowsAt (H : Hp) (r : Addr) (as : List Addr) (R : List (List Nat)) : Prop where
  at_ : H r = some (.lst (as.map V.ref))
  len : as.length = R.length
  row : ∀ (i : Nat) (a : Addr) (x : List Nat), as[i]? = some a → R[i]? = some x → H a = some (.lst (nI x))
/-- equations as lists of pairs of tuples | of lists -/
def EqsAt (mk : List V → HO) (H : Hp) (p : Addr) (es : List Eqn) : Prop := ∃ ts : List Addr, H p = some (.lst (ts.map V.ref)) ∧ ts.length = es.length ∧
  ∀ (i : Nat) (t : Addr) (e : Eqn), ts[i]? = some t → es[i]? = some e → ∃ a b, H t = some (.tup [.ref a, .ref b]) ∧ H a = some (mk (nI e.1)) ∧ H b = some (mk (nI e.2))
structure TblAt (K : PySem.W.Frag) (H : Hp) (t : Addr) (n : Nat) (r : Addr) (as : List Addr) (R : List (List Nat)) : Prop where
  ins : ∃ dx, H t = some (.ins (cTab K) dx [("size", .int (n : Int)), ("rows", .ref r)])
  rows : RowsAt H r as R
  ok : TabOk n R
  nd : as.Nodup
  pos : 1 ≤ n
  sm : n ≤ 7
def newAll (H : Hp) (r : Addr) (as : List Addr) : Prop := H r = none ∧ ∀ a ∈ as, H a = none
/-- d is the first of xs that is none of 0 .. n - 1 -/
def FirstBad (n : Nat) (xs : List Int) (d : Int) : Prop := ∃ i : Nat, xs[i]? = some d ∧ ¬ (0 ≤ d ∧ d < n) ∧ ∀ (j : Nat) (x : Int), j < i → xs[j]? = some x → 0 ≤ x ∧ x < n
def SqLT (K : PySem.W.Frag) (H : Hp) (a : Addr) (xs : List V) : Prop := SqL K H a xs ∨ SqT K H a xs
def numS (n : Nat) : Str := ((toString (n : Int) : String) : Str)
def rowText (l : List Nat) : Str := Txt.join " " (l.map numS)
def rowsText (R : List (List Nat)) : Str := Txt.join "\n" (R.map rowText)
/-- the pen: k draws at most -/
def PenAt (H : Hp) (p c : Addr) (t : Nat) : Prop := ∃ (k l : Int) (cells : List Int), H p = some (.dK [(.inr "cells", .ref c), (.inr "turn", .int k), (.inr "left", .int l)]) ∧ H c = some (.lst (cells.map V.int)) ∧ 0 ≤ k ∧ k ≤ t
/-! ### the program -/
def sp_BadValue (K : PySem.W.Frag) : Sp := fun vs H Q _ => ∃ (a : Addr) (v : V), vs = [.ref a, v] ∧ H a = some (exo a (He.ga K "BadValue") none) ∧
  ∀ d, H d = none → d ≠ a → Q .non (upd (upd H d (exd d [("value", v)])) a (exo a (He.ga K "BadValue") (some d)))
def sp_BadSize (K : PySem.W.Frag) : Sp := fun vs H Q _ => ∃ (a : Addr) (v : V), vs = [.ref a, v] ∧ H a = some (exo a (He.ga K "BadSize") none) ∧
  ∀ d, H d = none → d ≠ a → Q .non (upd (upd H d (exd d [("size", v)])) a (exo a (He.ga K "BadSize") (some d)))
def sp_NotClosed (K : PySem.W.Frag) : Sp := fun vs H Q _ => ∃ (a : Addr) (l r : Nat), vs = [.ref a, .int (l : Int), .int (r : Int)] ∧ l < 10 ∧ r < 10 ∧ H a = some (exo a (He.ga K "NotClosed") none) ∧
  ∀ d, H d = none → d ≠ a → Q .non (upd (upd (upd H d (exd d [("left", .int (l : Int))])) a (exo a (He.ga K "NotClosed") (some d))) d (exd d [("right", .int (r : Int)), ("left", .int (l : Int))]))
def sp_put_row (K : PySem.W.Frag) : Sp := fun vs H Q _ => ∃ (r v : Addr) (as : List Addr) (R : List (List Nat)) (n : Nat) (l : List Nat), vs = [.ref r, .ref v] ∧ RowsAt H r as R ∧ TabOk n R ∧ SqT K H v (nI l) ∧ l ≠ [] ∧ l.length ≤ 10 ∧ (∀ x ∈ l, x < n) ∧
  ∀ H', Ex H H' → Q (.int (putRow (opOf R) l : Nat)) H'
def sp_equations_of (K : PySem.W.Frag) : Sp := fun vs H Q _ => ∃ k x y z : Nat, vs = [.str (ruleS k), .int (x : Int), .int (y : Int), .int (z : Int)] ∧ k < 9 ∧ ∀ H' p, Ex H H' → H p = none → EqsAt .tup H' p (eqsP k x y z) → Q (.ref p) H'
def sp_holds_for (K : PySem.W.Frag) : Sp := fun vs H Q _ => ∃ (r : Addr) (as : List Addr) (R : List (List Nat)) (n k x y z : Nat), vs = [.ref r, .str (ruleS k), .int (x : Int), .int (y : Int), .int (z : Int)] ∧ k < 9 ∧ x < n ∧ y < n ∧ z < n ∧ RowsAt H r as R ∧ TabOk n R ∧
  ∀ H', Ex H H' → Q (.bl (holdsP (opOf R) k x y z)) H'
def sp_Tinit (K : PySem.W.Frag) : Sp := fun vs H Q _ => ∃ (t dx : Addr) (n : Nat) (v : V), vs = [.ref t, .int (n : Int), v] ∧ 1 ≤ n ∧ n ≤ 7 ∧ H t = some (.ins (cTab K) dx []) ∧
  ((∃ r, v = .ref r ∧ ∀ H', Fr (fun a => a = t) H H' → H' t = some (.ins (cTab K) dx [("size", .int (n : Int)), ("rows", .ref r)]) → Q .non H') ∨
   (v = .non ∧ ∀ H' r as, Fr (fun a => a = t) H H' → H' t = some (.ins (cTab K) dx [("size", .int (n : Int)), ("rows", .ref r)]) → newAll H r as → as.Nodup → RowsAt H' r as (List.replicate n (List.replicate n 0)) → Q .non H'))
/-- .. so that bad is told by an exception of the class x with a dict of the fields fs -/
def Bad (K : PySem.W.Frag) (x : Str) (fs : List (Str × V)) (H : Hp) (E : XK) : Prop := ∀ H' d, Ex H H' → H' d = some (.xd fs) → E (.ref (He.ga K x)) (some d) H'
def sp_Tcheck (K : PySem.W.Frag) : Sp := fun vs H Q E => ∃ (t v dx r : Addr) (n : Nat) (xs : List Int), vs = [.ref t, .ref v] ∧ H t = some (.ins (cTab K) dx [("size", .int (n : Int)), ("rows", .ref r)]) ∧ SqLT K H v (iI xs) ∧
  ((∀ x ∈ xs, 0 ≤ x ∧ x < (n : Int)) → ∀ H', Ex H H' → Q .non H') ∧ ∀ d, FirstBad n xs d → Bad K "BadValue" [("value", .int d)] H E
def sp_Tgetitem (K : PySem.W.Frag) : Sp := fun vs H Q _ => ∃ (t p r : Addr) (as : List Addr) (R : List (List Nat)) (n a b : Nat), vs = [.ref t, .ref p] ∧ TblAt K H t n r as R ∧ a < n ∧ b < n ∧ H p = some (.tup [.int (a : Int), .int (b : Int)]) ∧
  ∀ H', Ex H H' → Q (.int (opOf R a b : Nat)) H'
def sp_Tsetitem (K : PySem.W.Frag) : Sp := fun vs H Q _ => ∃ (t p r ra : Addr) (as : List Addr) (R : List (List Nat)) (n a b c : Nat), vs = [.ref t, .ref p, .int (c : Int)] ∧ TblAt K H t n r as R ∧ a < n ∧ b < n ∧ c < n ∧ H p = some (.tup [.int (a : Int), .int (b : Int)]) ∧ as[a]? = some ra ∧
  ∀ H', Ex H H' → Q .non (upd H' ra (.lst (nI ((R.getD a []).set b c))))
def sp_Tstr (K : PySem.W.Frag) : Sp := fun vs H Q _ => ∃ (t r : Addr) (as : List Addr) (R : List (List Nat)) (n : Nat), vs = [.ref t] ∧ TblAt K H t n r as R ∧ ∀ H', Ex H H' → Q (.str (rowsText R)) H'
def sp_Tbreaks (K : PySem.W.Frag) : Sp := fun vs H Q _ => ∃ (t r : Addr) (as : List Addr) (R : List (List Nat)) (n k : Nat), vs = [.ref t, .str (ruleS k)] ∧ k < 9 ∧ TblAt K H t n r as R ∧ ∀ v H', Ex H H' → (v = .non ↔ Kept (opOf R) n k) → Q v H'
def sp_Trules (K : PySem.W.Frag) : Sp := fun vs H Q _ => ∃ (t r : Addr) (as : List Addr) (R : List (List Nat)) (n : Nat), vs = [.ref t] ∧ TblAt K H t n r as R ∧
  ∀ (H' : Hp) (p : Addr) (ks : List Nat), Ex H H' → H p = none → H' p = some (.lst (ks.map fun k => V.str (ruleS k))) → (∀ k ∈ ks, k < 9) → (∀ k, k < 9 → (k ∈ ks ↔ Kept (opOf R) n k)) → Q (.ref p) H'
def sp_Tgenerated (K : PySem.W.Frag) : Sp := fun vs H Q E => ∃ (t v r : Addr) (as : List Addr) (R : List (List Nat)) (n : Nat) (xs : List Int), vs = [.ref t, .ref v] ∧ TblAt K H t n r as R ∧ SqLT K H v (iI xs) ∧
  (∀ l : List Nat, nI l = iI xs → (∀ x ∈ l, x < n) → ∀ H' p L, Ex H H' → H p = none → H' p = some (.lst (nI L)) → IsGen (opOf R) l L → Q (.ref p) H') ∧ ∀ d, FirstBad n xs d → Bad K "BadValue" [("value", .int d)] H E
def sp_Tpart (K : PySem.W.Frag) : Sp := fun vs H Q E => ∃ (t v r : Addr) (as : List Addr) (R : List (List Nat)) (n : Nat) (xs : List Int), vs = [.ref t, .ref v] ∧ TblAt K H t n r as R ∧ SqLT K H v (iI xs) ∧
  (∀ l : List Nat, nI l = iI xs → (∀ x ∈ l, x < n) → (keptOf n l = [] → Bad K "BadSize" [("size", .int 0)] H E) ∧
    (∀ a b, FirstOpen (opOf R) (keptOf n l) a b → Bad K "NotClosed" [("right", .int (b : Int)), ("left", .int (a : Int))] H E) ∧
    (keptOf n l ≠ [] → Closed (opOf R) (keptOf n l) → ∀ H' t' r' as', Ex H H' → H t' = none → newAll H r' as' → TblAt K H' t' (keptOf n l).length r' as' (partRows (opOf R) (keptOf n l)) → Q (.ref t') H')) ∧
  ∀ d, FirstBad n xs d → Bad K "BadValue" [("value", .int d)] H E
/-! ### the law's own defs -/
def PenGo (p c : Addr) (t : Nat) (H H' : Hp) : Prop := Fr (fun a => a = p) H H' ∧ PenAt H' p c t
def sp_law_pen (K : PySem.W.Frag) : Sp := fun vs H Q _ => ∃ (a : Addr) (ns : List Int), vs = [.ref a] ∧ SqL K H a (ns.map V.int) ∧ ∀ H' p c, Ex H H' → H p = none → H c = none → PenAt H' p c 0 → Q (.ref p) H'
def sp_law_draw (K : PySem.W.Frag) : Sp := fun vs H Q _ => ∃ (p c : Addr) (t s : Nat), vs = [.ref p, .int (s : Int)] ∧ 0 < s ∧ s < 1000 ∧ t < 1000000 ∧ PenAt H p c t ∧ ∀ H' (d : Nat), d < s → PenGo p c (t + 1) H H' → Q (.int (d : Int)) H'
def sp_law_pick (K : PySem.W.Frag) : Sp := fun vs H Q _ => ∃ (p c o : Addr) (t : Nat) (xs : List V), vs = [.ref p, .ref o] ∧ o ≠ p ∧ H o = some (.lst xs) ∧ xs ≠ [] ∧ xs.length < 100 ∧ t < 1000000 ∧ PenAt H p c t ∧
  ∀ H' (i : Nat) v, xs[i]? = some v → PenGo p c (t + 1) H H' → Q v H'
def sp_law_shuffled (K : PySem.W.Frag) : Sp := fun vs H Q _ => ∃ (p c o : Addr) (t : Nat) (l : List Nat), vs = [.ref p, .ref o] ∧ H o = some (.lst (nI l)) ∧ l.length ≤ 10 ∧ t < 900000 ∧ PenAt H p c t ∧
  ∀ H' q (l' : List Nat), l'.Perm l → H q = none → H' q = some (.lst (nI l')) → PenGo p c (t + 10) H H' → Q (.ref q) H'
def sp_law_nine (K : PySem.W.Frag) : Sp := fun vs H Q _ => vs = [] ∧ ∀ H' p, Ex H H' → H p = none → H' p = some (.lst nine) → Q (.ref p) H'
def sp_law_few (K : PySem.W.Frag) : Sp := fun vs H Q _ => ∃ (p c o : Addr) (t s : Nat) (l : List Nat), vs = [.ref p, .ref o, .int (s : Int)] ∧ H o = some (.lst (nI l)) ∧ l.length ≤ 10 ∧ s ≤ 10 ∧ t < 900000 ∧ PenAt H p c t ∧
  ∀ H' q (l' : List Nat), (∀ x ∈ l', x ∈ l) → l'.length ≤ s → H q = none → H' q = some (.lst (nI l')) → PenGo p c (t + 10) H H' → Q (.ref q) H'
def sp_law_from_left (K : PySem.W.Frag) : Sp := fun vs H Q _ => ∃ (r v : Addr) (as : List Addr) (R : List (List Nat)) (n : Nat) (l : List Nat), vs = [.ref r, .ref v] ∧ RowsAt H r as R ∧ TabOk n R ∧ H v = some (.lst (nI l)) ∧ l ≠ [] ∧ l.length ≤ 10 ∧ (∀ x ∈ l, x < n) ∧
  ∀ H', Ex H H' → Q (.int (putRow (opOf R) l : Nat)) H'
def sp_law_equal_sides (K : PySem.W.Frag) : Sp := fun vs H Q _ => ∃ k x y z : Nat, vs = [.str (ruleS k), .int (x : Int), .int (y : Int), .int (z : Int)] ∧ k < 9 ∧ ∀ H' p, Ex H H' → H p = none → EqsAt .lst H' p (eqsL k x y z) → Q (.ref p) H'
def sp_law_triple_holds (K : PySem.W.Frag) : Sp := fun vs H Q _ => ∃ (r : Addr) (as : List Addr) (R : List (List Nat)) (n k x y z : Nat), vs = [.ref r, .str (ruleS k), .int (x : Int), .int (y : Int), .int (z : Int)] ∧ k < 9 ∧ x < n ∧ y < n ∧ z < n ∧ RowsAt H r as R ∧ TabOk n R ∧
  ∀ H', Ex H H' → Q (.bl (holdsL (opOf R) k x y z)) H'
def sp_law_first_break (K : PySem.W.Frag) : Sp := fun vs H Q _ => ∃ (r : Addr) (as : List Addr) (R : List (List Nat)) (n k : Nat), vs = [.ref r, .str (ruleS k)] ∧ k < 9 ∧ n ≤ 7 ∧ RowsAt H r as R ∧ TabOk n R ∧ ∀ v H', Ex H H' → (v = .non ↔ Kept (opOf R) n k) → Q v H'
def sp_law_rules_kept (K : PySem.W.Frag) : Sp := fun vs H Q _ => ∃ (r : Addr) (as : List Addr) (R : List (List Nat)) (n : Nat), vs = [.ref r] ∧ n ≤ 7 ∧ RowsAt H r as R ∧ TabOk n R ∧
  ∀ (H' : Hp) (p : Addr) (ks : List Nat), Ex H H' → H p = none → H' p = some (.lst (ks.map fun k => V.str (ruleS k))) → (∀ k ∈ ks, k < 9) → (∀ k, k < 9 → (k ∈ ks ↔ Kept (opOf R) n k)) → Q (.ref p) H'
/-- each sign once, from the left (w = 0) or from the right -/
def onceC (l : List Nat) : List Nat := l.foldl (fun acc c => if c ∈ acc then acc else acc ++ [c]) []
def shortC (w : Nat) (l : List Nat) : List Nat := if w = 0 then onceC l else (onceC l.reverse).reverse
def strC (l : List Nat) : Str := ⟨l.toArray⟩
def sp_law_shortened (K : PySem.W.Frag) : Sp := fun vs H Q _ => ∃ (l : List Nat) (w : Nat), vs = [.str (strC l), .int (w : Int)] ∧ l.length ≤ 20 ∧ ∀ H', Ex H H' → Q (.str (strC (shortC w l))) H'
def marksOf (ws : List Nat) (l : List Nat) : List (List Nat) := ws.map fun w => shortC w l
/-- the products of the words are words, by their marks -/
def wordsOk (ws : List Nat) (L : List (List Nat)) : Bool := L.all fun a => L.all fun b => (L.map (marksOf ws)).contains (marksOf ws (a ++ b))
def sp_law_word_rows (K : PySem.W.Frag) : Sp := fun vs H Q _ => ∃ (a b : Addr) (L : List (List Nat)) (ws : List Nat), vs = [.ref a, .ref b] ∧ SqL K H a (L.map fun l => V.str (strC l)) ∧ SqL K H b (nI ws) ∧ L.length ≤ 7 ∧ 1 ≤ ws.length ∧ ws.length ≤ 2 ∧ (∀ l ∈ L, l.length ≤ 5 ∧ ∀ c ∈ l, c < 128) ∧ wordsOk ws L = true ∧
  ∀ H' r as R, Ex H H' → newAll H r as → RowsAt H' r as R → TabOk L.length R → Q (.ref r) H'
def sp_law_base_rows (K : PySem.W.Frag) : Sp := fun vs H Q _ => ∃ (p c : Addr) (t : Nat), vs = [.ref p] ∧ t < 800000 ∧ PenAt H p c t ∧
  ∀ H' r as R n, 1 ≤ n → n ≤ 7 → newAll H r as → RowsAt H' r as R → TabOk n R → PenGo p c (t + 100) H H' → Q (.ref r) H'
def sp_law_twisted_rows (K : PySem.W.Frag) : Sp := fun vs H Q _ => ∃ (p c r : Addr) (t n : Nat) (as : List Addr) (R : List (List Nat)), vs = [.ref p, .ref r] ∧ t < 800000 ∧ 1 ≤ n ∧ n ≤ 7 ∧ RowsAt H r as R ∧ TabOk n R ∧ PenAt H p c t ∧
  ∀ H' r' as' R', newAll H r' as' → as'.Nodup → RowsAt H' r' as' R' → TabOk n R' → PenGo p c (t + 10) H H' → Q (.ref r') H'
def sp_law_rows_drawn (K : PySem.W.Frag) : Sp := fun vs H Q _ => ∃ (p c : Addr) (t : Nat), vs = [.ref p] ∧ t < 700000 ∧ PenAt H p c t ∧
  ∀ H' r as R n, 1 ≤ n → n ≤ 7 → newAll H r as → as.Nodup → RowsAt H' r as R → TabOk n R → PenGo p c (t + 200) H H' → Q (.ref r) H'
def sp_law_table_of_rows (K : PySem.W.Frag) : Sp := fun vs H Q _ => ∃ (r : Addr) (as : List Addr) (R : List (List Nat)) (n : Nat), vs = [.ref r] ∧ 1 ≤ n ∧ n ≤ 7 ∧ RowsAt H r as R ∧ TabOk n R ∧
  ∀ H' t r' as', Ex H H' → H t = none → newAll H r' as' → TblAt K H' t n r' as' R → Q (.ref t) H'
def sp_law_rows_of_table (K : PySem.W.Frag) : Sp := fun vs H Q _ => ∃ (t r : Addr) (as : List Addr) (R : List (List Nat)) (n : Nat), vs = [.ref t] ∧ TblAt K H t n r as R ∧
  ∀ H' r' as', Ex H H' → newAll H r' as' → RowsAt H' r' as' R → Q (.ref r') H'
def sp_law_closed_values (K : PySem.W.Frag) : Sp := fun vs H Q _ => ∃ (r v : Addr) (as : List Addr) (R : List (List Nat)) (n : Nat) (l : List Nat), vs = [.ref r, .ref v] ∧ n ≤ 7 ∧ RowsAt H r as R ∧ TabOk n R ∧ H v = some (.lst (nI l)) ∧ l.length ≤ 20 ∧ (∀ x ∈ l, x < n) ∧
  ∀ H' p L, Ex H H' → H p = none → H' p = some (.lst (nI L)) → IsGen (opOf R) l L → Q (.ref p) H'
def sp_law_once (K : PySem.W.Frag) : Sp := fun vs H Q _ => ∃ (v : Addr) (l : List Nat), vs = [.ref v] ∧ H v = some (.lst (nI l)) ∧ l.length ≤ 100 ∧ ∀ H' p, Ex H H' → H p = none → H' p = some (.lst (nI (once l))) → Q (.ref p) H'
def sp_law_rows_text (K : PySem.W.Frag) : Sp := fun vs H Q _ => ∃ (r : Addr) (as : List Addr) (R : List (List Nat)) (n : Nat), vs = [.ref r] ∧ n ≤ 7 ∧ RowsAt H r as R ∧ TabOk n R ∧ ∀ H', Ex H H' → Q (.str (rowsText R)) H'
def sp_law_open_pair (K : PySem.W.Frag) : Sp := fun vs H Q _ => ∃ (r v : Addr) (as : List Addr) (R : List (List Nat)) (n : Nat) (l : List Nat), vs = [.ref r, .ref v] ∧ RowsAt H r as R ∧ TabOk n R ∧ H v = some (.lst (nI l)) ∧ (∀ x ∈ l, x < n) ∧
  (Closed (opOf R) l → ∀ H', Ex H H' → Q .non H') ∧ ∀ a b, FirstOpen (opOf R) l a b → ∀ H' p, Ex H H' → H p = none → H' p = some (.tup [.str "open", .int (a : Int), .int (b : Int), .bl true]) → Q (.ref p) H'
/-- what the law makes of a call that may raise -/
def tried_E (K : PySem.W.Frag) (Q : VK) : XK := fun cls d H =>
  (∃ dd v, cls = .ref (He.ga K "BadValue") ∧ d = some dd ∧ H dd = some (.xd [("value", v)]) ∧ ∀ p, H p = none → Q (.ref p) (upd H p (.tup [.str "value", v, .bl true]))) ∨
  (∃ dd v, cls = .ref (He.ga K "BadSize") ∧ d = some dd ∧ H dd = some (.xd [("size", v)]) ∧ ∀ p, H p = none → Q (.ref p) (upd H p (.tup [.str "size", v, .bl true]))) ∨
  (∃ dd l r, cls = .ref (He.ga K "NotClosed") ∧ d = some dd ∧ H dd = some (.xd [("right", r), ("left", l)]) ∧ ∀ p, H p = none → Q (.ref p) (upd H p (.tup [.str "open", l, r, .bl true])))
def tried_TT (K : PySem.W.Frag) : (XK → Hp → VK → Prop) → Hp → VK → Prop := fun tl H Q => tl (tried_E K Q) H Q
def sp_law_part_right (K : PySem.W.Frag) (LT : List (Addr × Str)) : Sp := fun vs H Q _ => ∃ (t r v rt : Addr) (as ast : List Addr) (R : List (List Nat)) (n : Nat) (l : List Nat), vs = [.ref t, .ref r, .ref v] ∧ LamX.Tabs LT H ∧ TblAt K H t n rt ast R ∧ RowsAt H r as R ∧
  H v = some (.lst (nI l)) ∧ l.length ≤ 20 ∧ (∀ x ∈ l, x < n) ∧ ∀ H', LamX.ExtN H H' → LamX.Tabs LT H' → Q (.bl true) H'
def sp_law (K : PySem.W.Frag) (LT : List (Addr × Str)) : Sp := fun vs H Q _ => ∃ (a : Addr) (ns : List Int), vs = [.ref a] ∧ SqL K H a (ns.map V.int) ∧ LamX.Tabs LT H ∧ ∀ H', Q (.bl true) H'
end K28
end
section
namespace K28
open PySem PySem.Spec L2 PyProof.Rows
abbrev s_put_row : Stmt := top 16
abbrev n_put_row : List Str := ["rows", "values", "found", "value"]
theorem sc_put_row : FnScope n_put_row ["rows", "values"] (defScope s_put_row) := ⟨rfl, rfl, rfl, by decide +kernel, rfl, by decide +kernel, by decide +kernel⟩
def d_put_row : He.DefD := ⟨("put_row", none), "put_row", "put_row", defArgs s_put_row, defBody s_put_row, defScope s_put_row, [], []⟩
def t_put_row (K : PySem.W.Frag) : TS :=
  (tSeq (tAsg (tOp (rIxT K) (tVar 1) (tC (.int 0))) (gName 2))
    (tSeq (tFor (iTup K (tSl (rSlT K) (tVar 1) (tPart (tC (.int 1))) tNoPart)) (gName 3)
    (tAsg (tOp (rIxL K) (tOp (rIxL K) (tVar 0) (tVar 2)) (tVar 3)) (gName 2)))
    (tRet (tVar 2))))
abbrev s_equations_of : Stmt := top 17
abbrev n_equations_of : List Str := ["rule", "x", "y", "z", "pairs", "idle"]
theorem sc_equations_of : FnScope n_equations_of ["rule", "x", "y", "z"] (defScope s_equations_of) := ⟨rfl, rfl, rfl, by decide +kernel, rfl, by decide +kernel, by decide +kernel⟩
def d_equations_of : He.DefD := ⟨("equations_of", none), "equations_of", "equations_of", defArgs s_equations_of, defBody s_equations_of, defScope s_equations_of, [], []⟩
def t_equations_of (K : PySem.W.Frag) : TS :=
  (tSeq (tAsg (tDisp [((tC (.str "order")), (tLst (tCons (tTup (tCons (tTup (tCons (tVar 1) (tCons (tVar 2) tNil))) (tCons (tTup (tCons (tVar 2) (tCons (tVar 1) tNil))) tNil))) tNil))), ((tC (.str "middle")), (tLst (tCons (tTup (tCons (tTup (tCons (tVar 1) (tCons (tVar 2) (tCons (tVar 1) (tCons (tVar 3) (tCons (tVar 1) tNil)))))) (tCons (tTup (tCons (tVar 1) (tCons (tVar 2) (tCons (tVar 3) (tCons (tVar 1) tNil))))) tNil))) tNil))), ((tC (.str "first")), (tLst (tCons (tTup (tCons (tTup (tCons (tVar 1) (tCons (tVar 2) (tCons (tVar 1) tNil)))) (tCons (tTup (tCons (tVar 1) (tCons (tVar 2) tNil))) tNil))) tNil))), ((tC (.str "last")), (tLst (tCons (tTup (tCons (tTup (tCons (tVar 1) (tCons (tVar 2) (tCons (tVar 1) tNil)))) (tCons (tTup (tCons (tVar 2) (tCons (tVar 1) tNil))) tNil))) tNil))), ((tC (.str "ends")), (tLst (tCons (tTup (tCons (tTup (tCons (tVar 1) (tCons (tVar 2) (tCons (tVar 3) tNil)))) (tCons (tTup (tCons (tVar 1) (tCons (tVar 3) tNil))) tNil))) tNil))), ((tC (.str "keep")), (tLst (tCons (tTup (tCons (tTup (tCons (tVar 1) (tCons (tVar 2) tNil))) (tCons (tTup (tCons (tVar 1) tNil)) tNil))) tNil))), ((tC (.str "take")), (tLst (tCons (tTup (tCons (tTup (tCons (tVar 1) (tCons (tVar 2) tNil))) (tCons (tTup (tCons (tVar 2) tNil)) tNil))) tNil))), ((tC (.str "vanish")), (tLst (tCons (tTup (tCons (tTup (tCons (tVar 1) (tCons (tVar 1) (tCons (tVar 2) tNil)))) (tCons (tTup (tCons (tVar 2) tNil)) tNil))) (tCons (tTup (tCons (tTup (tCons (tVar 2) (tCons (tVar 1) (tCons (tVar 1) tNil)))) (tCons (tTup (tCons (tVar 2) tNil)) tNil))) tNil))))]) (gName 4))
    (tSeq (tAsg (tIf (tTest (tOp (rIn K false) (tVar 0) (tC (.ref (He.ga K "IDLE"))))) (tLst (tCons (tTup (tCons (tTup (tCons (tVar 1) (tCons (tVar 1) tNil))) (tCons (tTup (tCons (tVar 1) tNil)) tNil))) tNil)) (tLst tNil)) (gName 5))
    (tRet (tOp rCat (tDGet2 (tVar 4) (tVar 0) (tLst tNil)) (tVar 5)))))
abbrev s_holds_for : Stmt := top 18
abbrev n_holds_for : List Str := ["rows", "rule", "x", "y", "z", "left", "right"]
theorem sc_holds_for : FnScope n_holds_for ["rows", "rule", "x", "y", "z"] (defScope s_holds_for) := ⟨rfl, rfl, rfl, by decide +kernel, rfl, by decide +kernel, by decide +kernel⟩
def d_holds_for : He.DefD := ⟨("holds_for", none), "holds_for", "holds_for", defArgs s_holds_for, defBody s_holds_for, defScope s_holds_for, [], []⟩
def t_holds_for (K : PySem.W.Frag) : TS :=
  (tSeq (tIfS (tAnd (tTest (tOp (rIn K false) (tVar 1) (tC (.ref (He.ga K "GROUPED"))))) (tTest (tOp rNe (tOp (rIxL K) (tOp (rIxL K) (tVar 0) (tOp (rIxL K) (tOp (rIxL K) (tVar 0) (tVar 2)) (tVar 3))) (tVar 4)) (tOp (rIxL K) (tOp (rIxL K) (tVar 0) (tVar 2)) (tOp (rIxL K) (tOp (rIxL K) (tVar 0) (tVar 3)) (tVar 4)))))) (tRet (tC (.bl false))) tNext)
    (tSeq (tFor (iList K (tCall (sp_equations_of K) [] E0 (tCons (tVar 1) (tCons (tVar 2) (tCons (tVar 3) (tCons (tVar 4) tNil)))))) (gTup K 2 (gCons (gName 5) (gCons (gName 6) gNil)))
    (tIfS (tTest (tOp rNe (tCall (sp_put_row K) [] E0 (tCons (tVar 0) (tCons (tVar 5) tNil))) (tCall (sp_put_row K) [] E0 (tCons (tVar 0) (tCons (tVar 6) tNil))))) (tRet (tC (.bl false))) tNext))
    (tRet (tC (.bl true)))))
abbrev s_Tinit : Stmt := inClass (top 19) 0
abbrev n_Tinit : List Str := ["self", "size", "rows", "a", "b"]
theorem sc_Tinit : FnScope n_Tinit ["self", "size", "rows"] (defScope s_Tinit) := ⟨rfl, rfl, rfl, by decide +kernel, rfl, by decide +kernel, by decide +kernel⟩
def d_Tinit : He.DefD := ⟨("Table", some "__init__"), "__init__", "Table.__init__", defArgs s_Tinit, defBody s_Tinit, defScope s_Tinit, [.non], []⟩
def t_Tinit (K : PySem.W.Frag) (E : XK) : TS :=
  (tSeq (tIfS (tNot (tTest (tChain rLeK rLeK (tC (.int 1)) (tVar 1) (tC (.int 60))))) (rRaise E (tMkO (He.ga K "BadSize") (sp_BadSize K) [] (tCons (tVar 1) tNil))) tNext)
    (tSeq (sFld K (tVar 0) (tVar 1) "size")
    (tSeq (sFld K (tVar 0) (tVar 2) "rows")
    (tIfS (tTest (tOp rIsNK (tVar 2) (tC .non))) (sFld K (tVar 0) (tLc (iRng1 (tCons (tVar 1) tNil)) (gName 3) tYes (tLc (iRng1 (tCons (tVar 1) tNil)) (gName 4) tYes (tC (.int 0)) [4]) [3]) "rows") tNext))))
abbrev s_Tcheck : Stmt := inClass (top 19) 3
abbrev n_Tcheck : List Str := ["self", "values", "value"]
theorem sc_Tcheck : FnScope n_Tcheck ["self", "values"] (defScope s_Tcheck) := ⟨rfl, rfl, rfl, by decide +kernel, rfl, by decide +kernel, by decide +kernel⟩
def d_Tcheck : He.DefD := ⟨("Table", some "check"), "check", "Table.check", defArgs s_Tcheck, defBody s_Tcheck, defScope s_Tcheck, [], []⟩
def t_Tcheck (K : PySem.W.Frag) (E : XK) : TS :=
  (tFor (iSeqV K (tVar 1)) (gName 2)
    (tIfS (tTest (tOp rOutR (tVar 2) (tCB rRngV (tCons (tFld K (tVar 0) "size") tNil)))) (rRaise E (tMkO (He.ga K "BadValue") (sp_BadValue K) [] (tCons (tVar 2) tNil))) tNext))
abbrev s_Tgetitem : Stmt := inClass (top 19) 4
abbrev n_Tgetitem : List Str := ["self", "at", "a", "b"]
theorem sc_Tgetitem : FnScope n_Tgetitem ["self", "at"] (defScope s_Tgetitem) := ⟨rfl, rfl, rfl, by decide +kernel, rfl, by decide +kernel, by decide +kernel⟩
def d_Tgetitem : He.DefD := ⟨("Table", some "__getitem__"), "__getitem__", "Table.__getitem__", defArgs s_Tgetitem, defBody s_Tgetitem, defScope s_Tgetitem, [], []⟩
def t_Tgetitem (K : PySem.W.Frag) (E : XK) : TS :=
  (tSeq (tAsg (tVar 1) (gTup K 2 (gCons (gName 2) (gCons (gName 3) gNil))))
    (tSeq (tDrop (tMeth (He.ga K "Table") "check" (sp_Tcheck K) [] E (tVar 0) (tCons (tLst (tCons (tVar 2) (tCons (tVar 3) tNil))) tNil)))
    (tRet (tOp (rIxL K) (tOp (rIxL K) (tFld K (tVar 0) "rows") (tVar 2)) (tVar 3)))))
abbrev s_Tsetitem : Stmt := inClass (top 19) 5
abbrev n_Tsetitem : List Str := ["self", "at", "worth", "a", "b"]
theorem sc_Tsetitem : FnScope n_Tsetitem ["self", "at", "worth"] (defScope s_Tsetitem) := ⟨rfl, rfl, rfl, by decide +kernel, rfl, by decide +kernel, by decide +kernel⟩
def d_Tsetitem : He.DefD := ⟨("Table", some "__setitem__"), "__setitem__", "Table.__setitem__", defArgs s_Tsetitem, defBody s_Tsetitem, defScope s_Tsetitem, [], []⟩
def t_Tsetitem (K : PySem.W.Frag) (E : XK) : TS :=
  (tSeq (tAsg (tVar 1) (gTup K 2 (gCons (gName 3) (gCons (gName 4) gNil))))
    (tSeq (tDrop (tMeth (He.ga K "Table") "check" (sp_Tcheck K) [] E (tVar 0) (tCons (tLst (tCons (tVar 3) (tCons (tVar 4) (tCons (tVar 2) tNil)))) tNil)))
    (tAsg (tVar 2) (gSub (tOp (rIxL K) (tFld K (tVar 0) "rows") (tVar 3)) (tVar 4) rSetL))))
abbrev s_Tstr : Stmt := inClass (top 19) 8
abbrev n_Tstr : List Str := ["self", "row", "value"]
theorem sc_Tstr : FnScope n_Tstr ["self"] (defScope s_Tstr) := ⟨rfl, rfl, rfl, by decide +kernel, rfl, by decide +kernel, by decide +kernel⟩
def d_Tstr : He.DefD := ⟨("Table", some "__str__"), "__str__", "Table.__str__", defArgs s_Tstr, defBody s_Tstr, defScope s_Tstr, [], []⟩
def t_Tstr (K : PySem.W.Frag) : TS :=
  (tRet (tM1 (rJoinK K) (tC (.str "\n")) (tLc (iList K (tFld K (tVar 0) "rows")) (gName 1) tYes (tM1 (rJoinK K) (tC (.str " ")) (tLc (iList K (tVar 1)) (gName 2) tYes (tCB rStrI (tCons (tVar 2) tNil)) [2])) [1])))
abbrev s_Tbreaks : Stmt := inClass (top 19) 10
abbrev n_Tbreaks : List Str := ["self", "rule", "x", "y", "z"]
theorem sc_Tbreaks : FnScope n_Tbreaks ["self", "rule"] (defScope s_Tbreaks) := ⟨rfl, rfl, rfl, by decide +kernel, rfl, by decide +kernel, by decide +kernel⟩
def d_Tbreaks : He.DefD := ⟨("Table", some "breaks"), "breaks", "Table.breaks", defArgs s_Tbreaks, defBody s_Tbreaks, defScope s_Tbreaks, [], []⟩
def t_Tbreaks (K : PySem.W.Frag) : TS :=
  (tSeq (tIfS (tTest (tOp (rIn K true) (tVar 1) (tC (.ref (He.ga K "RULES"))))) tNever tNext)
    (tSeq (tFor (iRng1 (tCons (tFld K (tVar 0) "size") tNil)) (gName 2)
    (tFor (iRng1 (tCons (tFld K (tVar 0) "size") tNil)) (gName 3)
    (tFor (iRng1 (tCons (tFld K (tVar 0) "size") tNil)) (gName 4)
    (tIfS (tNot (tB (tCall (sp_holds_for K) [] E0 (tCons (tFld K (tVar 0) "rows") (tCons (tVar 1) (tCons (tVar 2) (tCons (tVar 3) (tCons (tVar 4) tNil)))))))) (tRet (tTup (tCons (tVar 2) (tCons (tVar 3) (tCons (tVar 4) tNil))))) tNext))))
    (tRet (tC .non))))
abbrev s_Trules : Stmt := inClass (top 19) 11
abbrev n_Trules : List Str := ["self", "rule"]
theorem sc_Trules : FnScope n_Trules ["self"] (defScope s_Trules) := ⟨rfl, rfl, rfl, by decide +kernel, rfl, by decide +kernel, by decide +kernel⟩
def d_Trules : He.DefD := ⟨("Table", some "rules"), "rules", "Table.rules", defArgs s_Trules, defBody s_Trules, defScope s_Trules, [], []⟩
def t_Trules (K : PySem.W.Frag) : TS :=
  (tRet (tLc (iTup K (tC (.ref (He.ga K "RULES")))) (gName 1) (tTest (tOp rIsNK (tMeth (He.ga K "Table") "breaks" (sp_Tbreaks K) [] E0 (tVar 0) (tCons (tVar 1) tNil)) (tC .non))) (tVar 1) [1]))
abbrev s_Tgenerated : Stmt := inClass (top 19) 16
abbrev n_Tgenerated : List Str := ["self", "values", "value", "found", "at", "fresh"]
theorem sc_Tgenerated : FnScope n_Tgenerated ["self", "values"] (defScope s_Tgenerated) := ⟨rfl, rfl, rfl, by decide +kernel, rfl, by decide +kernel, by decide +kernel⟩
def d_Tgenerated : He.DefD := ⟨("Table", some "generated"), "generated", "Table.generated", defArgs s_Tgenerated, defBody s_Tgenerated, defScope s_Tgenerated, [], []⟩
def t_Tgenerated (K : PySem.W.Frag) (E : XK) : TS :=
  (tSeq (tDrop (tMeth (He.ga K "Table") "check" (sp_Tcheck K) [] E (tVar 0) (tCons (tVar 1) tNil)))
    (tSeq (tAsg (tLc (iRng1 (tCons (tFld K (tVar 0) "size") tNil)) (gName 2) (tTest (tOp (rIn K false) (tVar 2) (tVar 1))) (tVar 2) [2]) (gName 3))
    (tSeq (tAsg (tC (.int 0)) (gName 4))
    (tSeq (tWhile (tTest (tOp rLtK (tVar 4) (tCB (Evl.rLenS K) (tCons (tVar 3) tNil))))
    (tSeq (tFor (iList K (tCB (Evl.rListS K) (tCons (tSl (rSlL K) (tVar 3) tNoPart (tPart (tOp rAddK (tVar 4) (tC (.int 1))))) tNil))) (gName 2)
    (tFor (iTup K (tTup (tCons (tOp (rIxL K) (tOp (rIxL K) (tFld K (tVar 0) "rows") (tOp (rIxL K) (tVar 3) (tVar 4))) (tVar 2)) (tCons (tOp (rIxL K) (tOp (rIxL K) (tFld K (tVar 0) "rows") (tVar 2)) (tOp (rIxL K) (tVar 3) (tVar 4))) tNil)))) (gName 5)
    (tIfS (tTest (tOp (rIn K true) (tVar 5) (tVar 3))) (tDrop (tBM K "list" rAppend (tVar 3) (tCons (tVar 5) tNil))) tNext)))
    (tAug 4 (tC (.int 1)) (ipI fun i j => i + j))))
    (tRet (tCB (rSorted K) (tCons (tLc (iList K (tVar 3)) (gName 2) tYes (tCB rInt1 (tCons (tVar 2) tNil)) [2]) tNil)))))))
abbrev s_Tpart : Stmt := inClass (top 19) 17
abbrev n_Tpart : List Str := ["self", "values", "kept", "left", "right", "numbers", "value", "at", "a", "b"]
theorem sc_Tpart : FnScope n_Tpart ["self", "values"] (defScope s_Tpart) := ⟨rfl, rfl, rfl, by decide +kernel, rfl, by decide +kernel, by decide +kernel⟩
def d_Tpart : He.DefD := ⟨("Table", some "part"), "part", "Table.part", defArgs s_Tpart, defBody s_Tpart, defScope s_Tpart, [], []⟩
def t_Tpart (K : PySem.W.Frag) (E : XK) : TS :=
  (tSeq (tDrop (tMeth (He.ga K "Table") "check" (sp_Tcheck K) [] E (tVar 0) (tCons (tVar 1) tNil)))
    (tSeq (tAsg (tLc (iRng1 (tCons (tFld K (tVar 0) "size") tNil)) (gName 6) (tTest (tOp (rIn K false) (tVar 6) (tVar 1))) (tVar 6) [6]) (gName 2))
    (tSeq (tIfS (tTest (tOp (rEqD K) (tVar 2) (tLst tNil))) (rRaise E (tMkO (He.ga K "BadSize") (sp_BadSize K) [] (tCons (tC (.int 0)) tNil))) tNext)
    (tSeq (tFor (iList K (tVar 2)) (gName 3)
    (tFor (iList K (tVar 2)) (gName 4)
    (tIfS (tTest (tOp (rIn K true) (tOp (rIxL K) (tOp (rIxL K) (tFld K (tVar 0) "rows") (tVar 3)) (tVar 4)) (tVar 2))) (rRaise E (tMkO (He.ga K "NotClosed") (sp_NotClosed K) [] (tCons (tVar 3) (tCons (tVar 4) tNil)))) tNext)))
    (tSeq (tAsg (tDc (iEnum K (tCons (tVar 2) tNil)) (gTup K 2 (gCons (gName 7) (gCons (gName 6) gNil))) tYes (tVar 6) (tVar 7) [7, 6]) (gName 5))
    (tRet (tMake (He.ga K "Table") (sp_Tinit K) [] E0 (tCons (tCB (Evl.rLenS K) (tCons (tVar 2) tNil)) (tCons (tLc (iList K (tVar 2)) (gName 8) tYes (tLc (iList K (tVar 2)) (gName 9) tYes (tDGet (tVar 5) (tOp (rIxL K) (tOp (rIxL K) (tFld K (tVar 0) "rows") (tVar 8)) (tVar 9))) [9]) [8]) tNil)))))))))
abbrev s_law_pen : Stmt := top 21
abbrev n_law_pen : List Str := ["_law_script"]
theorem sc_law_pen : FnScope n_law_pen ["_law_script"] (defScope s_law_pen) := ⟨rfl, rfl, rfl, by decide +kernel, rfl, by decide +kernel, by decide +kernel⟩
def d_law_pen : He.DefD := ⟨("_law_pen", none), "_law_pen", "_law_pen", defArgs s_law_pen, defBody s_law_pen, defScope s_law_pen, [], []⟩
def t_law_pen (K : PySem.W.Frag) : TS :=
  (tRet (tDisp [((tC (.str "cells")), (tCB (Evl.rListS K) (tCons (tSl (rSlL K) (tVar 0) tNoPart (tPart (tC (.int 63)))) tNil))), ((tC (.str "turn")), (tC (.int 0))), ((tC (.str "left")), (tC (.int 0)))]))
abbrev s_law_draw : Stmt := top 22
abbrev n_law_draw : List Str := ["_law_pen_here", "_law_span", "_law_digit", "_law_turn", "_law_cell", "_law_mixed"]
theorem sc_law_draw : FnScope n_law_draw ["_law_pen_here", "_law_span"] (defScope s_law_draw) := ⟨rfl, rfl, rfl, by decide +kernel, rfl, by decide +kernel, by decide +kernel⟩
def d_law_draw : He.DefD := ⟨("_law_draw", none), "_law_draw", "_law_draw", defArgs s_law_draw, defBody s_law_draw, defScope s_law_draw, [], []⟩
def t_law_draw (K : PySem.W.Frag) : TS :=
  (tSeq (tIfS (tTest (tOp rGtK (tDGet (tVar 0) (tC (.str "left"))) (tC (.int 0)))) (tSeq (tAsg (tOp rModK (tCB rInt1 (tCons (tDGet (tVar 0) (tC (.str "left"))) tNil)) (tVar 1)) (gName 2))
    (tSeq (sDPut (tVar 0) (tC (.str "left")) (tOp rDivK (tDGet (tVar 0) (tC (.str "left"))) (tVar 1)))
    (tRet (tVar 2)))) tNext)
    (tSeq (tAsg (tDGet (tVar 0) (tC (.str "turn"))) (gName 3))
    (tSeq (sDPut (tVar 0) (tC (.str "turn")) (tOp rAddK (tVar 3) (tC (.int 1))))
    (tSeq (tAsg (tOp rAddK (tOp rMulK (tC (.int 61)) (tVar 3)) (tC (.int 13))) (gName 4))
    (tSeq (tIfS (tTest (tOp (rNeD K) (tDGet (tVar 0) (tC (.str "cells"))) (tLst tNil))) (tAsg (tOp (rIxL K) (tDGet (tVar 0) (tC (.str "cells"))) (tOp rModK (tCB rInt1 (tCons (tVar 3) tNil)) (tCB (Evl.rLenS K) (tCons (tDGet (tVar 0) (tC (.str "cells"))) tNil)))) (gName 4)) tNext)
    (tSeq (tIfS (tAnd (tTest (tOp rLtK (tVar 3) (tCB (Evl.rLenS K) (tCons (tDGet (tVar 0) (tC (.str "cells"))) tNil)))) (tTest (tOp rGeK (tCB rAbsK (tCons (tVar 4) tNil)) (tOp rPowK (tC (.int 10)) (tC (.int 18)))))) (tSeq (sDPut (tVar 0) (tC (.str "left")) (tOp rDivK (tOp rSubK (tCB rAbsK (tCons (tVar 4) tNil)) (tOp rPowK (tC (.int 10)) (tC (.int 18)))) (tVar 1)))
    (tRet (tOp rModK (tCB rInt1 (tCons (tOp rSubK (tCB rAbsK (tCons (tVar 4) tNil)) (tOp rPowK (tC (.int 10)) (tC (.int 18)))) tNil)) (tVar 1)))) tNext)
    (tSeq (tAsg (tOp rMulK (tOp rModK (tCB rInt1 (tCons (tVar 4) tNil)) (tC (.int 4294967087))) (tC (.int 48611))) (gName 5))
    (tSeq (tAsg (tOp rModK (tCB rInt1 (tCons (tOp rAddK (tOp rAddK (tVar 5) (tOp rMulK (tVar 3) (tOp rAddK (tOp rMulK (tVar 3) (tC (.int 27919))) (tC (.int 10601))))) (tC (.int 41))) tNil)) (tC (.int 4294967029))) (gName 5))
    (tSeq (tAsg (tOp rModK (tCB rInt1 (tCons (tOp rMulK (tVar 5) (tOp rAddK (tVar 5) (tC (.int 75013)))) tNil)) (tC (.int 4294966997))) (gName 5))
    (tSeq (tAsg (tOp rModK (tCB rInt1 (tCons (tOp rAddK (tOp rAddK (tOp rMulK (tVar 5) (tVar 5)) (tOp rMulK (tC (.int 30427)) (tVar 5))) (tOp rMulK (tC (.int 19)) (tVar 3))) tNil)) (tC (.int 4294966981))) (gName 5))
    (tRet (tOp rModK (tCB rInt1 (tCons (tOp rDivK (tOp rModK (tCB rInt1 (tCons (tOp rMulK (tVar 5) (tOp rAddK (tVar 5) (tC (.int 58111)))) tNil)) (tC (.int 4294966943))) (tC (.int 64))) tNil)) (tVar 1)))))))))))))
abbrev s_law_pick : Stmt := top 23
abbrev n_law_pick : List Str := ["_law_pen_here", "_law_options"]
theorem sc_law_pick : FnScope n_law_pick ["_law_pen_here", "_law_options"] (defScope s_law_pick) := ⟨rfl, rfl, rfl, by decide +kernel, rfl, by decide +kernel, by decide +kernel⟩
def d_law_pick : He.DefD := ⟨("_law_pick", none), "_law_pick", "_law_pick", defArgs s_law_pick, defBody s_law_pick, defScope s_law_pick, [], []⟩
def t_law_pick (K : PySem.W.Frag) : TS :=
  (tRet (tOp (rIxL K) (tVar 1) (tCall (sp_law_draw K) [] E0 (tCons (tVar 0) (tCons (tCB (Evl.rLenS K) (tCons (tVar 1) tNil)) tNil)))))
abbrev s_law_shuffled : Stmt := top 24
abbrev n_law_shuffled : List Str := ["_law_pen_here", "_law_items", "_law_left", "_law_found"]
theorem sc_law_shuffled : FnScope n_law_shuffled ["_law_pen_here", "_law_items"] (defScope s_law_shuffled) := ⟨rfl, rfl, rfl, by decide +kernel, rfl, by decide +kernel, by decide +kernel⟩
def d_law_shuffled : He.DefD := ⟨("_law_shuffled", none), "_law_shuffled", "_law_shuffled", defArgs s_law_shuffled, defBody s_law_shuffled, defScope s_law_shuffled, [], []⟩
def t_law_shuffled (K : PySem.W.Frag) : TS :=
  (tSeq (tPar 2 3 (tCons (tCB (Evl.rListS K) (tCons (tVar 1) tNil)) (tCons (tLst tNil) tNil)))
    (tSeq (tWhile (tTest (tOp (rNeD K) (tVar 2) (tLst tNil)))
    (tDrop (tBM K "list" rAppend (tVar 3) (tCons (tBM K "list" rPopAt (tVar 2) (tCons (tCall (sp_law_draw K) [] E0 (tCons (tVar 0) (tCons (tCB (Evl.rLenS K) (tCons (tVar 2) tNil)) tNil))) tNil)) tNil))))
    (tRet (tVar 3))))
abbrev s_law_nine : Stmt := top 25
abbrev n_law_nine : List Str := []
theorem sc_law_nine : FnScope n_law_nine [] (defScope s_law_nine) := ⟨rfl, rfl, rfl, by decide +kernel, rfl, by decide +kernel, by decide +kernel⟩
def d_law_nine : He.DefD := ⟨("_law_nine", none), "_law_nine", "_law_nine", defArgs s_law_nine, defBody s_law_nine, defScope s_law_nine, [], []⟩
def t_law_nine (K : PySem.W.Frag) : TS :=
  (tRet (tLst (tCons (tC (.str "grouping")) (tCons (tC (.str "order")) (tCons (tC (.str "middle")) (tCons (tC (.str "first")) (tCons (tC (.str "last")) (tCons (tC (.str "ends")) (tCons (tC (.str "keep")) (tCons (tC (.str "take")) (tCons (tC (.str "vanish")) tNil)))))))))))
abbrev s_law_few : Stmt := top 26
abbrev n_law_few : List Str := ["_law_pen_here", "_law_items", "_law_span", "_law_left", "_law_found", "_law_k"]
theorem sc_law_few : FnScope n_law_few ["_law_pen_here", "_law_items", "_law_span"] (defScope s_law_few) := ⟨rfl, rfl, rfl, by decide +kernel, rfl, by decide +kernel, by decide +kernel⟩
def d_law_few : He.DefD := ⟨("_law_few", none), "_law_few", "_law_few", defArgs s_law_few, defBody s_law_few, defScope s_law_few, [], []⟩
def t_law_few (K : PySem.W.Frag) : TS :=
  (tSeq (tPar 3 4 (tCons (tCB (Evl.rListS K) (tCons (tVar 1) tNil)) (tCons (tLst tNil) tNil)))
    (tSeq (tFor (iRng1 (tCons (tCB rMin2 (tCons (tCB rInt1 (tCons (tVar 2) tNil)) (tCons (tCB (Evl.rLenS K) (tCons (tVar 3) tNil)) tNil))) tNil)) (gName 5)
    (tDrop (tBM K "list" rAppend (tVar 4) (tCons (tBM K "list" rPopAt (tVar 3) (tCons (tCall (sp_law_draw K) [] E0 (tCons (tVar 0) (tCons (tCB (Evl.rLenS K) (tCons (tVar 3) tNil)) tNil))) tNil)) tNil))))
    (tRet (tVar 4))))
abbrev s_law_from_left : Stmt := top 27
abbrev n_law_from_left : List Str := ["_law_rows", "_law_some", "_law_found", "_law_value"]
theorem sc_law_from_left : FnScope n_law_from_left ["_law_rows", "_law_some"] (defScope s_law_from_left) := ⟨rfl, rfl, rfl, by decide +kernel, rfl, by decide +kernel, by decide +kernel⟩
def d_law_from_left : He.DefD := ⟨("_law_from_left", none), "_law_from_left", "_law_from_left", defArgs s_law_from_left, defBody s_law_from_left, defScope s_law_from_left, [], []⟩
def t_law_from_left (K : PySem.W.Frag) : TS :=
  (tSeq (tAsg (tOp (rIxL K) (tVar 1) (tC (.int 0))) (gName 2))
    (tSeq (tFor (iList K (tSl (rSlL K) (tVar 1) (tPart (tC (.int 1))) tNoPart)) (gName 3)
    (tAsg (tOp (rIxL K) (tOp (rIxL K) (tVar 0) (tVar 2)) (tVar 3)) (gName 2)))
    (tRet (tVar 2))))
abbrev s_law_equal_sides : Stmt := top 28
abbrev n_law_equal_sides : List Str := ["_law_rule", "_law_x", "_law_y", "_law_z", "_law_sides"]
theorem sc_law_equal_sides : FnScope n_law_equal_sides ["_law_rule", "_law_x", "_law_y", "_law_z"] (defScope s_law_equal_sides) := ⟨rfl, rfl, rfl, by decide +kernel, rfl, by decide +kernel, by decide +kernel⟩
def d_law_equal_sides : He.DefD := ⟨("_law_equal_sides", none), "_law_equal_sides", "_law_equal_sides", defArgs s_law_equal_sides, defBody s_law_equal_sides, defScope s_law_equal_sides, [], []⟩
def t_law_equal_sides (K : PySem.W.Frag) : TS :=
  (tSeq (tIfS (tTest (tOp rEq (tVar 0) (tC (.str "order")))) (tRet (tLst (tCons (tTup (tCons (tLst (tCons (tVar 1) (tCons (tVar 2) tNil))) (tCons (tLst (tCons (tVar 2) (tCons (tVar 1) tNil))) tNil))) tNil))) tNext)
    (tSeq (tIfS (tOr (tTest (tOp rEq (tVar 0) (tC (.str "keep")))) (tTest (tOp rEq (tVar 0) (tC (.str "take"))))) (tRet (tLst (tCons (tTup (tCons (tLst (tCons (tVar 1) (tCons (tVar 2) tNil))) (tCons (tLst (tCons (tIf (tTest (tOp rEq (tVar 0) (tC (.str "keep")))) (tVar 1) (tVar 2)) tNil)) tNil))) tNil))) tNext)
    (tSeq (tIfS (tTest (tOp rEq (tVar 0) (tC (.str "vanish")))) (tRet (tLst (tCons (tTup (tCons (tLst (tCons (tVar 1) (tCons (tVar 1) (tCons (tVar 2) tNil)))) (tCons (tLst (tCons (tVar 2) tNil)) tNil))) (tCons (tTup (tCons (tLst (tCons (tVar 2) (tCons (tVar 1) (tCons (tVar 1) tNil)))) (tCons (tLst (tCons (tVar 2) tNil)) tNil))) tNil)))) tNext)
    (tSeq (tIfS (tTest (tOp rEq (tVar 0) (tC (.str "grouping")))) (tRet (tLst tNil)) tNext)
    (tSeq (tAsg (tDisp [((tC (.str "middle")), (tTup (tCons (tLst (tCons (tVar 1) (tCons (tVar 2) (tCons (tVar 1) (tCons (tVar 3) (tCons (tVar 1) tNil)))))) (tCons (tLst (tCons (tVar 1) (tCons (tVar 2) (tCons (tVar 3) (tCons (tVar 1) tNil))))) tNil)))), ((tC (.str "first")), (tTup (tCons (tLst (tCons (tVar 1) (tCons (tVar 2) (tCons (tVar 1) tNil)))) (tCons (tLst (tCons (tVar 1) (tCons (tVar 2) tNil))) tNil)))), ((tC (.str "last")), (tTup (tCons (tLst (tCons (tVar 1) (tCons (tVar 2) (tCons (tVar 1) tNil)))) (tCons (tLst (tCons (tVar 2) (tCons (tVar 1) tNil))) tNil))))]) (gName 4))
    (tRet (tLst (tCons (tTup (tCons (tLst (tCons (tVar 1) (tCons (tVar 1) tNil))) (tCons (tLst (tCons (tVar 1) tNil)) tNil))) (tCons (tDGet2 (tVar 4) (tVar 0) (tTup (tCons (tLst (tCons (tVar 1) (tCons (tVar 2) (tCons (tVar 3) tNil)))) (tCons (tLst (tCons (tVar 1) (tCons (tVar 3) tNil))) tNil)))) tNil)))))))))
abbrev s_law_triple_holds : Stmt := top 29
abbrev n_law_triple_holds : List Str := ["_law_rows", "_law_rule", "_law_x", "_law_y", "_law_z", "_law_one", "_law_two"]
theorem sc_law_triple_holds : FnScope n_law_triple_holds ["_law_rows", "_law_rule", "_law_x", "_law_y", "_law_z"] (defScope s_law_triple_holds) := ⟨rfl, rfl, rfl, by decide +kernel, rfl, by decide +kernel, by decide +kernel⟩
def d_law_triple_holds : He.DefD := ⟨("_law_triple_holds", none), "_law_triple_holds", "_law_triple_holds", defArgs s_law_triple_holds, defBody s_law_triple_holds, defScope s_law_triple_holds, [], []⟩
def t_law_triple_holds (K : PySem.W.Frag) : TS :=
  (tSeq (tIfS (tAnd (tTest (tOp (rIn K true) (tVar 1) (tTup (tCons (tC (.str "order")) (tCons (tC (.str "keep")) (tCons (tC (.str "take")) tNil)))))) (tTest (tOp rNe (tOp (rIxL K) (tOp (rIxL K) (tVar 0) (tOp (rIxL K) (tOp (rIxL K) (tVar 0) (tVar 2)) (tVar 3))) (tVar 4)) (tOp (rIxL K) (tOp (rIxL K) (tVar 0) (tVar 2)) (tOp (rIxL K) (tOp (rIxL K) (tVar 0) (tVar 3)) (tVar 4)))))) (tRet (tC (.bl false))) tNext)
    (tSeq (tFor (iList K (tCall (sp_law_equal_sides K) [] E0 (tCons (tVar 1) (tCons (tVar 2) (tCons (tVar 3) (tCons (tVar 4) tNil)))))) (gTup K 2 (gCons (gName 5) (gCons (gName 6) gNil)))
    (tIfS (tTest (tOp rNe (tCall (sp_law_from_left K) [] E0 (tCons (tVar 0) (tCons (tVar 5) tNil))) (tCall (sp_law_from_left K) [] E0 (tCons (tVar 0) (tCons (tVar 6) tNil))))) (tRet (tC (.bl false))) tNext))
    (tRet (tC (.bl true)))))
abbrev s_law_first_break : Stmt := top 30
abbrev n_law_first_break : List Str := ["_law_rows", "_law_rule", "_law_x", "_law_y", "_law_z"]
theorem sc_law_first_break : FnScope n_law_first_break ["_law_rows", "_law_rule"] (defScope s_law_first_break) := ⟨rfl, rfl, rfl, by decide +kernel, rfl, by decide +kernel, by decide +kernel⟩
def d_law_first_break : He.DefD := ⟨("_law_first_break", none), "_law_first_break", "_law_first_break", defArgs s_law_first_break, defBody s_law_first_break, defScope s_law_first_break, [], []⟩
def t_law_first_break (K : PySem.W.Frag) : TS :=
  (tSeq (tFor (iRng1 (tCons (tCB (Evl.rLenS K) (tCons (tVar 0) tNil)) tNil)) (gName 2)
    (tFor (iRng1 (tCons (tCB (Evl.rLenS K) (tCons (tVar 0) tNil)) tNil)) (gName 3)
    (tFor (iRng1 (tCons (tCB (Evl.rLenS K) (tCons (tVar 0) tNil)) tNil)) (gName 4)
    (tIfS (tNot (tB (tCall (sp_law_triple_holds K) [] E0 (tCons (tVar 0) (tCons (tVar 1) (tCons (tVar 2) (tCons (tVar 3) (tCons (tVar 4) tNil)))))))) (tRet (tTup (tCons (tVar 2) (tCons (tVar 3) (tCons (tVar 4) tNil))))) tNext))))
    (tRet (tC .non)))
abbrev s_law_rules_kept : Stmt := top 31
abbrev n_law_rules_kept : List Str := ["_law_rows", "_law_rule"]
theorem sc_law_rules_kept : FnScope n_law_rules_kept ["_law_rows"] (defScope s_law_rules_kept) := ⟨rfl, rfl, rfl, by decide +kernel, rfl, by decide +kernel, by decide +kernel⟩
def d_law_rules_kept : He.DefD := ⟨("_law_rules_kept", none), "_law_rules_kept", "_law_rules_kept", defArgs s_law_rules_kept, defBody s_law_rules_kept, defScope s_law_rules_kept, [], []⟩
def t_law_rules_kept (K : PySem.W.Frag) : TS :=
  (tRet (tLc (iList K (tCall (sp_law_nine K) [] E0 tNil)) (gName 1) (tTest (tOp rIsNK (tCall (sp_law_first_break K) [] E0 (tCons (tVar 0) (tCons (tVar 1) tNil))) (tC .non))) (tVar 1) [1]))
abbrev s_law_shortened : Stmt := top 32
abbrev n_law_shortened : List Str := ["_law_word", "_law_way", "_law_found", "_law_row", "_law_sign"]
theorem sc_law_shortened : FnScope n_law_shortened ["_law_word", "_law_way"] (defScope s_law_shortened) := ⟨rfl, rfl, rfl, by decide +kernel, rfl, by decide +kernel, by decide +kernel⟩
def d_law_shortened : He.DefD := ⟨("_law_shortened", none), "_law_shortened", "_law_shortened", defArgs s_law_shortened, defBody s_law_shortened, defScope s_law_shortened, [], []⟩
def t_law_shortened (K : PySem.W.Frag) : TS :=
  (tSeq (tAsg (tC (.str "")) (gName 2))
    (tSeq (tAsg (tIf (tTest (tOp rEq (tVar 1) (tC (.int 0)))) (tVar 0) (tRevS (tVar 0))) (gName 3))
    (tSeq (tFor (iStr (tVar 3)) (gName 4)
    (tAsg (tOp rCatS (tVar 2) (tOp rMulS (tVar 4) (tCB rInt1 (tCons (tOp rNotSign (tVar 4) (tVar 2)) tNil)))) (gName 2)))
    (tRet (tIf (tTest (tOp rEq (tVar 1) (tC (.int 0)))) (tVar 2) (tRevS (tVar 2)))))))
abbrev s_law_word_rows : Stmt := top 33
abbrev n_law_word_rows : List Str := ["_law_words", "_law_ways", "_law_marks", "_law_found", "_law_one", "_law_word", "_law_way", "_law_two"]
theorem sc_law_word_rows : FnScope n_law_word_rows ["_law_words", "_law_ways"] (defScope s_law_word_rows) := ⟨rfl, rfl, rfl, by decide +kernel, rfl, by decide +kernel, by decide +kernel⟩
def d_law_word_rows : He.DefD := ⟨("_law_word_rows", none), "_law_word_rows", "_law_word_rows", defArgs s_law_word_rows, defBody s_law_word_rows, defScope s_law_word_rows, [], []⟩
def t_law_word_rows (K : PySem.W.Frag) : TS :=
  (tSeq (tAsg (tTup (tCons (tLc (iList K (tVar 0)) (gName 5) tYes (tLc (iList K (tVar 1)) (gName 6) tYes (tCall (sp_law_shortened K) [] E0 (tCons (tVar 5) (tCons (tVar 6) tNil))) [6]) [5]) (tCons (tLst tNil) tNil))) (gTup K 2 (gCons (gName 2) (gCons (gName 3) gNil))))
    (tSeq (tFor (iList K (tVar 0)) (gName 4)
    (tDrop (tBM K "list" rAppend (tVar 3) (tCons (tLc (iList K (tVar 0)) (gName 7) tYes (tBM K "list" (rIndexD K) (tVar 2) (tCons (tLc (iList K (tVar 1)) (gName 6) tYes (tCall (sp_law_shortened K) [] E0 (tCons (tOp rCatS (tVar 4) (tVar 7)) (tCons (tVar 6) tNil))) [6]) tNil)) [7]) tNil))))
    (tRet (tVar 3))))
abbrev s_law_base_rows : Stmt := top 34
abbrev n_law_base_rows : List Str := ["_law_pen_here", "_law_way", "_law_size", "_law_span", "_law_free", "_law_words", "_law_a", "_law_b"]
theorem sc_law_base_rows : FnScope n_law_base_rows ["_law_pen_here"] (defScope s_law_base_rows) := ⟨rfl, rfl, rfl, by decide +kernel, rfl, by decide +kernel, by decide +kernel⟩
def d_law_base_rows : He.DefD := ⟨("_law_base_rows", none), "_law_base_rows", "_law_base_rows", defArgs s_law_base_rows, defBody s_law_base_rows, defScope s_law_base_rows, [], []⟩
def t_law_base_rows (K : PySem.W.Frag) : TS :=
  (tSeq (tAsg (tTup (tCons (tCall (sp_law_draw K) [] E0 (tCons (tVar 0) (tCons (tC (.int 17)) tNil))) (tCons (tOp rAddK (tC (.int 1)) (tCall (sp_law_draw K) [] E0 (tCons (tVar 0) (tCons (tC (.int 5)) tNil)))) tNil))) (gTup K 2 (gCons (gName 1) (gCons (gName 2) gNil))))
    (tSeq (tAsg (tLstRg (tRg1 (tVar 2))) (gName 3))
    (tSeq (tIfS (tTest (tOp rLtK (tVar 1) (tC (.int 2)))) (tRet (tLc (iList K (tVar 3)) (gName 6) tYes (tLc (iList K (tVar 3)) (gName 7) tYes (tCall (sp_law_draw K) [] E0 (tCons (tVar 0) (tCons (tVar 2) tNil))) [7]) [6])) tNext)
    (tSeq (tIfS (tTest (tOp rEq (tVar 1) (tC (.int 2)))) (tSeq (tAsg (tLc (iList K (tVar 3)) (gName 6) tYes (tLc (iList K (tVar 3)) (gName 7) tYes (tCall (sp_law_draw K) [] E0 (tCons (tVar 0) (tCons (tVar 2) tNil))) [7]) [6]) (gName 4))
    (tRet (tLc (iList K (tVar 3)) (gName 6) tYes (tLc (iList K (tVar 3)) (gName 7) tYes (tOp (rIxL K) (tOp (rIxL K) (tVar 4) (tCB rMin2 (tCons (tCB rInt1 (tCons (tVar 6) tNil)) (tCons (tCB rInt1 (tCons (tVar 7) tNil)) tNil)))) (tCB Evl.rMax2 (tCons (tCB rInt1 (tCons (tVar 6) tNil)) (tCons (tCB rInt1 (tCons (tVar 7) tNil)) tNil)))) [7]) [6]))) tNext)
    (tSeq (tIfS (tTest (tOp rEq (tVar 1) (tC (.int 3)))) (tRet (tLc (iList K (tVar 3)) (gName 6) tYes (tLc (iList K (tVar 3)) (gName 7) tYes (tOp rModK (tCB rInt1 (tCons (tOp rAddK (tVar 6) (tVar 7)) tNil)) (tVar 2)) [7]) [6])) tNext)
    (tSeq (tIfS (tTest (tOp rEq (tVar 1) (tC (.int 4)))) (tRet (tLc (iList K (tVar 3)) (gName 6) tYes (tLc (iList K (tVar 3)) (gName 7) tYes (tCB rMin2 (tCons (tCB rInt1 (tCons (tVar 6) tNil)) (tCons (tCB rInt1 (tCons (tVar 7) tNil)) tNil))) [7]) [6])) tNext)
    (tSeq (tIfS (tTest (tOp rEq (tVar 1) (tC (.int 5)))) (tRet (tLc (iList K (tVar 3)) (gName 6) tYes (tLc (iList K (tVar 3)) (gName 7) tYes (tCB rMin2 (tCons (tCB rInt1 (tCons (tOp rAddK (tVar 6) (tVar 7)) tNil)) (tCons (tOp rSubK (tVar 2) (tC (.int 1))) tNil))) [7]) [6])) tNext)
    (tSeq (tIfS (tTest (tOp rLtK (tVar 1) (tC (.int 8)))) (tRet (tLc (iList K (tVar 3)) (gName 6) tYes (tLc (iList K (tVar 3)) (gName 7) tYes (tIf (tTest (tOp rEq (tVar 1) (tC (.int 6)))) (tVar 6) (tVar 7)) [7]) [6])) tNext)
    (tSeq (tIfS (tTest (tOp rEq (tVar 1) (tC (.int 8)))) (tRet (tOp rRep (tLst (tCons (tOp rRep (tLst (tCons (tCall (sp_law_draw K) [] E0 (tCons (tVar 0) (tCons (tVar 2) tNil))) tNil)) (tVar 2)) tNil)) (tVar 2))) tNext)
    (tSeq (tIfS (tTest (tOp rEq (tVar 1) (tC (.int 9)))) (tRet (tLst (tCons (tLst (tCons (tC (.int 0)) (tCons (tC (.int 1)) (tCons (tC (.int 2)) (tCons (tC (.int 3)) tNil))))) (tCons (tLst (tCons (tC (.int 1)) (tCons (tC (.int 0)) (tCons (tC (.int 3)) (tCons (tC (.int 2)) tNil))))) (tCons (tLst (tCons (tC (.int 2)) (tCons (tC (.int 3)) (tCons (tC (.int 0)) (tCons (tC (.int 1)) tNil))))) (tCons (tLst (tCons (tC (.int 3)) (tCons (tC (.int 2)) (tCons (tC (.int 1)) (tCons (tC (.int 0)) tNil))))) tNil)))))) tNext)
    (tSeq (tIfS (tTest (tOp rEq (tVar 1) (tC (.int 10)))) (tRet (tLc (iRng1 (tCons (tC (.int 4)) tNil)) (gName 6) tYes (tLc (iRng1 (tCons (tC (.int 4)) tNil)) (gName 7) tYes (tOp rAddK (tOp rMulK (tOp rDivK (tVar 6) (tC (.int 2))) (tC (.int 2))) (tOp rModK (tCB rInt1 (tCons (tVar 7) tNil)) (tC (.int 2)))) [7]) [6])) tNext)
    (tSeq (tIfS (tTest (tOp rEq (tVar 1) (tC (.int 11)))) (tRet (tLst (tCons (tLst (tCons (tC (.int 0)) (tCons (tC (.int 1)) (tCons (tC (.int 2)) (tCons (tC (.int 3)) tNil))))) (tCons (tLst (tCons (tC (.int 1)) (tCons (tC (.int 1)) (tCons (tC (.int 2)) (tCons (tC (.int 2)) tNil))))) (tCons (tLst (tCons (tC (.int 2)) (tCons (tC (.int 1)) (tCons (tC (.int 2)) (tCons (tC (.int 1)) tNil))))) (tCons (tLst (tCons (tC (.int 3)) (tCons (tC (.int 1)) (tCons (tC (.int 2)) (tCons (tC (.int 0)) tNil))))) tNil)))))) tNext)
    (tSeq (tIfS (tTest (tOp rEq (tVar 1) (tC (.int 16)))) (tRet (tLst (tCons (tLst (tCons (tC (.int 0)) (tCons (tC (.int 1)) (tCons (tC (.int 2)) (tCons (tC (.int 0)) (tCons (tC (.int 0)) tNil)))))) (tCons (tLst (tCons (tC (.int 0)) (tCons (tC (.int 1)) (tCons (tC (.int 2)) (tCons (tC (.int 1)) (tCons (tC (.int 1)) tNil)))))) (tCons (tLst (tCons (tC (.int 0)) (tCons (tC (.int 1)) (tCons (tC (.int 2)) (tCons (tC (.int 0)) (tCons (tC (.int 1)) tNil)))))) (tCons (tLst (tCons (tC (.int 0)) (tCons (tC (.int 1)) (tCons (tC (.int 2)) (tCons (tC (.int 3)) (tCons (tC (.int 3)) tNil)))))) (tCons (tLst (tCons (tC (.int 0)) (tCons (tC (.int 1)) (tCons (tC (.int 2)) (tCons (tC (.int 4)) (tCons (tC (.int 4)) tNil)))))) tNil))))))) tNext)
    (tSeq (tAsg (tLst (tCons (tC (.str "")) (tCons (tC (.str "a")) (tCons (tC (.str "b")) (tCons (tC (.str "ab")) (tCons (tC (.str "ba")) tNil)))))) (gName 5))
    (tSeq (tIfS (tTest (tOp rLtK (tVar 1) (tC (.int 14)))) (tRet (tCall (sp_law_word_rows K) [] E0 (tCons (tVar 5) (tCons (tLst (tCons (tOp rSubK (tVar 1) (tC (.int 12))) tNil)) tNil)))) tNext)
    (tRet (tIf (tTest (tOp rEq (tVar 1) (tC (.int 14)))) (tCall (sp_law_word_rows K) [] E0 (tCons (tOp rCat (tVar 5) (tLst (tCons (tC (.str "aba")) (tCons (tC (.str "bab")) tNil)))) (tCons (tLst (tCons (tC (.int 0)) (tCons (tC (.int 1)) tNil))) tNil))) (tCall (sp_law_word_rows K) [] E0 (tCons (tLst (tCons (tC (.str "")) (tCons (tC (.str "a")) tNil))) (tCons (tLst (tCons (tC (.int 0)) tNil)) tNil))))))))))))))))))))
abbrev s_law_twisted_rows : Stmt := top 35
abbrev n_law_twisted_rows : List Str := ["_law_pen_here", "_law_rows", "_law_order", "_law_found", "_law_line", "_law_a", "_law_b"]
theorem sc_law_twisted_rows : FnScope n_law_twisted_rows ["_law_pen_here", "_law_rows"] (defScope s_law_twisted_rows) := ⟨rfl, rfl, rfl, by decide +kernel, rfl, by decide +kernel, by decide +kernel⟩
def d_law_twisted_rows : He.DefD := ⟨("_law_twisted_rows", none), "_law_twisted_rows", "_law_twisted_rows", defArgs s_law_twisted_rows, defBody s_law_twisted_rows, defScope s_law_twisted_rows, [], []⟩
def t_law_twisted_rows (K : PySem.W.Frag) : TS :=
  (tSeq (tAsg (tCall (sp_law_shuffled K) [] E0 (tCons (tVar 0) (tCons (tLstRg (tRg1 (tCB (Evl.rLenS K) (tCons (tVar 1) tNil)))) tNil))) (gName 2))
    (tSeq (tAsg (tLc (iList K (tVar 2)) (gName 5) tYes (tLc (iList K (tVar 2)) (gName 6) tYes (tC (.int 0)) [6]) [5]) (gName 3))
    (tSeq (tFor (iRng1 (tCons (tCB (Evl.rLenS K) (tCons (tVar 1) tNil)) tNil)) (gName 5)
    (tFor (iRng1 (tCons (tCB (Evl.rLenS K) (tCons (tVar 1) tNil)) tNil)) (gName 6)
    (tSeq (tAsg (tOp (rIxL K) (tVar 3) (tOp (rIxL K) (tVar 2) (tVar 5))) (gName 4))
    (tAsg (tOp (rIxL K) (tVar 2) (tOp (rIxL K) (tOp (rIxL K) (tVar 1) (tVar 5)) (tVar 6))) (gSub (tVar 4) (tOp (rIxL K) (tVar 2) (tVar 6)) rSetL)))))
    (tRet (tVar 3)))))
abbrev s_law_rows_drawn : Stmt := top 36
abbrev n_law_rows_drawn : List Str := ["_law_pen_here", "_law_rows", "_law_line"]
theorem sc_law_rows_drawn : FnScope n_law_rows_drawn ["_law_pen_here"] (defScope s_law_rows_drawn) := ⟨rfl, rfl, rfl, by decide +kernel, rfl, by decide +kernel, by decide +kernel⟩
def d_law_rows_drawn : He.DefD := ⟨("_law_rows_drawn", none), "_law_rows_drawn", "_law_rows_drawn", defArgs s_law_rows_drawn, defBody s_law_rows_drawn, defScope s_law_rows_drawn, [], []⟩
def t_law_rows_drawn (K : PySem.W.Frag) : TS :=
  (tSeq (tAsg (tCall (sp_law_twisted_rows K) [] E0 (tCons (tVar 0) (tCons (tCall (sp_law_base_rows K) [] E0 (tCons (tVar 0) tNil)) tNil))) (gName 1))
    (tSeq (tIfS (tTest (tOp rEq (tCall (sp_law_draw K) [] E0 (tCons (tVar 0) (tCons (tC (.int 4)) tNil))) (tC (.int 0)))) (tSeq (tAsg (tOp (rIxL K) (tVar 1) (tCall (sp_law_draw K) [] E0 (tCons (tVar 0) (tCons (tCB (Evl.rLenS K) (tCons (tVar 1) tNil)) tNil)))) (gName 2))
    (tAsg (tCall (sp_law_draw K) [] E0 (tCons (tVar 0) (tCons (tCB (Evl.rLenS K) (tCons (tVar 1) tNil)) tNil))) (gSub (tVar 2) (tCall (sp_law_draw K) [] E0 (tCons (tVar 0) (tCons (tCB (Evl.rLenS K) (tCons (tVar 1) tNil)) tNil))) rSetL))) tNext)
    (tRet (tVar 1))))
abbrev s_law_table_of_rows : Stmt := top 37
abbrev n_law_table_of_rows : List Str := ["_law_rows", "_law_found", "_law_a", "_law_b"]
theorem sc_law_table_of_rows : FnScope n_law_table_of_rows ["_law_rows"] (defScope s_law_table_of_rows) := ⟨rfl, rfl, rfl, by decide +kernel, rfl, by decide +kernel, by decide +kernel⟩
def d_law_table_of_rows : He.DefD := ⟨("_law_table_of_rows", none), "_law_table_of_rows", "_law_table_of_rows", defArgs s_law_table_of_rows, defBody s_law_table_of_rows, defScope s_law_table_of_rows, [], []⟩
def t_law_table_of_rows (K : PySem.W.Frag) : TS :=
  (tSeq (tAsg (tMake (He.ga K "Table") (sp_Tinit K) [.non] E0 (tCons (tCB (Evl.rLenS K) (tCons (tVar 0) tNil)) tNil)) (gName 1))
    (tSeq (tFor (iRng1 (tCons (tCB (Evl.rLenS K) (tCons (tVar 0) tNil)) tNil)) (gName 2)
    (tFor (iRng1 (tCons (tCB (Evl.rLenS K) (tCons (tVar 0) tNil)) tNil)) (gName 3)
    (tAsg (tOp (rIxL K) (tOp (rIxL K) (tVar 0) (tVar 2)) (tVar 3)) (gSub (tVar 1) (tTup (tCons (tVar 2) (tCons (tVar 3) tNil))) (rOwnSet (He.ga K "Table") (sp_Tsetitem K) E0)))))
    (tRet (tVar 1))))
abbrev s_law_rows_of_table : Stmt := top 38
abbrev n_law_rows_of_table : List Str := ["_law_made", "_law_a", "_law_b"]
theorem sc_law_rows_of_table : FnScope n_law_rows_of_table ["_law_made"] (defScope s_law_rows_of_table) := ⟨rfl, rfl, rfl, by decide +kernel, rfl, by decide +kernel, by decide +kernel⟩
def d_law_rows_of_table : He.DefD := ⟨("_law_rows_of_table", none), "_law_rows_of_table", "_law_rows_of_table", defArgs s_law_rows_of_table, defBody s_law_rows_of_table, defScope s_law_rows_of_table, [], []⟩
def t_law_rows_of_table (K : PySem.W.Frag) : TS :=
  (tRet (tLc (iRng1 (tCons (tFld K (tVar 0) "size") tNil)) (gName 1) tYes (tLc (iRng1 (tCons (tFld K (tVar 0) "size") tNil)) (gName 2) tYes (tOwnGet (He.ga K "Table") (sp_Tgetitem K) E0 (tVar 0) (tTup (tCons (tVar 1) (tCons (tVar 2) tNil)))) [2]) [1]))
abbrev s_law_closed_values : Stmt := top 39
abbrev n_law_closed_values : List Str := ["_law_rows", "_law_values", "_law_found", "_law_at", "_law_other", "_law_line", "_law_row", "_law_value"]
theorem sc_law_closed_values : FnScope n_law_closed_values ["_law_rows", "_law_values"] (defScope s_law_closed_values) := ⟨rfl, rfl, rfl, by decide +kernel, rfl, by decide +kernel, by decide +kernel⟩
def d_law_closed_values : He.DefD := ⟨("_law_closed_values", none), "_law_closed_values", "_law_closed_values", defArgs s_law_closed_values, defBody s_law_closed_values, defScope s_law_closed_values, [], []⟩
def t_law_closed_values (K : PySem.W.Frag) : TS :=
  (tSeq (tPar 2 3 (tCons (tCall (sp_law_once K) [] E0 (tCons (tVar 1) tNil)) (tCons (tC (.int 0)) tNil)))
    (tSeq (tWhile (tTest (tOp rLtK (tVar 3) (tCB (Evl.rLenS K) (tCons (tVar 2) tNil))))
    (tSeq (tFor (iList K (tCB (Evl.rListS K) (tCons (tVar 2) tNil))) (gName 4)
    (tSeq (tPar 5 6 (tCons (tOp (rIxL K) (tVar 0) (tOp (rIxL K) (tVar 2) (tVar 3))) (tCons (tOp (rIxL K) (tVar 0) (tVar 4)) tNil)))
    (tAsg (tCall (sp_law_once K) [] E0 (tCons (tOp rCat (tVar 2) (tLst (tCons (tOp (rIxL K) (tVar 5) (tVar 4)) (tCons (tOp (rIxL K) (tVar 6) (tOp (rIxL K) (tVar 2) (tVar 3))) tNil)))) tNil)) (gName 2))))
    (tAsg (tOp rAddK (tVar 3) (tC (.int 1))) (gName 3))))
    (tRet (tCB (rSorted K) (tCons (tLc (iList K (tVar 2)) (gName 7) tYes (tCB rInt1 (tCons (tVar 7) tNil)) [7]) tNil)))))
abbrev s_law_once : Stmt := top 40
abbrev n_law_once : List Str := ["_law_items", "_law_found", "_law_one"]
theorem sc_law_once : FnScope n_law_once ["_law_items"] (defScope s_law_once) := ⟨rfl, rfl, rfl, by decide +kernel, rfl, by decide +kernel, by decide +kernel⟩
def d_law_once : He.DefD := ⟨("_law_once", none), "_law_once", "_law_once", defArgs s_law_once, defBody s_law_once, defScope s_law_once, [], []⟩
def t_law_once (K : PySem.W.Frag) : TS :=
  (tSeq (tAsg (tLst tNil) (gName 1))
    (tSeq (tFor (iList K (tVar 0)) (gName 2)
    (tAsg (tOp rCat (tVar 1) (tOp rRep (tLst (tCons (tVar 2) tNil)) (tCB rInt1 (tCons (tOp (rIn K true) (tVar 2) (tVar 1)) tNil)))) (gName 1)))
    (tRet (tVar 1))))
abbrev s_law_rows_text : Stmt := top 41
abbrev n_law_rows_text : List Str := ["_law_rows", "_law_line", "_law_value"]
theorem sc_law_rows_text : FnScope n_law_rows_text ["_law_rows"] (defScope s_law_rows_text) := ⟨rfl, rfl, rfl, by decide +kernel, rfl, by decide +kernel, by decide +kernel⟩
def d_law_rows_text : He.DefD := ⟨("_law_rows_text", none), "_law_rows_text", "_law_rows_text", defArgs s_law_rows_text, defBody s_law_rows_text, defScope s_law_rows_text, [], []⟩
def t_law_rows_text (K : PySem.W.Frag) : TS :=
  (tRet (tM1 (rJoinK K) (tC (.str "\n")) (tLc (iList K (tVar 0)) (gName 1) tYes (tM1 (rJoinK K) (tC (.str " ")) (tLc (iList K (tVar 1)) (gName 2) tYes (tCB rStrI (tCons (tVar 2) tNil)) [2])) [1])))
abbrev s_law_open_pair : Stmt := top 43
abbrev n_law_open_pair : List Str := ["_law_rows", "_law_kept", "_law_left", "_law_right", "_law_line"]
theorem sc_law_open_pair : FnScope n_law_open_pair ["_law_rows", "_law_kept"] (defScope s_law_open_pair) := ⟨rfl, rfl, rfl, by decide +kernel, rfl, by decide +kernel, by decide +kernel⟩
def d_law_open_pair : He.DefD := ⟨("_law_open_pair", none), "_law_open_pair", "_law_open_pair", defArgs s_law_open_pair, defBody s_law_open_pair, defScope s_law_open_pair, [], []⟩
def t_law_open_pair (K : PySem.W.Frag) : TS :=
  (tSeq (tFor (iList K (tVar 1)) (gName 2)
    (tFor (iList K (tVar 1)) (gName 3)
    (tSeq (tAsg (tOp (rIxL K) (tVar 0) (tVar 2)) (gName 4))
    (tIfS (tTest (tOp (rIn K true) (tOp (rIxL K) (tVar 4) (tVar 3)) (tVar 1))) (tRet (tTup (tCons (tC (.str "open")) (tCons (tVar 2) (tCons (tVar 3) (tCons (tC (.bl true)) tNil)))))) tNext))))
    (tRet (tC .non)))
abbrev s_law_part_right : Stmt := top 44
abbrev n_law_part_right : List Str := ["_law_made", "_law_rows", "_law_some", "_law_kept", "_law_due", "_law_handed", "_law_found", "_law_lines", "_law_whole", "_law_value", "_law_a", "_law_line", "_law_b", "_law_rule"]
theorem sc_law_part_right : FnScope n_law_part_right ["_law_made", "_law_rows", "_law_some"] (defScope s_law_part_right) := ⟨rfl, rfl, rfl, by decide +kernel, rfl, by decide +kernel, by decide +kernel⟩
def d_law_part_right : He.DefD := ⟨("_law_part_right", none), "_law_part_right", "_law_part_right", defArgs s_law_part_right, defBody s_law_part_right, defScope s_law_part_right, [], []⟩
def t_law_part_right (K : PySem.W.Frag) (LAMT : List (Addr × Str)) : TS :=
  (tSeq (tAsg (tCB (rSorted K) (tCons (tLc (iList K (tCall (sp_law_once K) [] E0 (tCons (tVar 2) tNil))) (gName 9) tYes (tCB rInt1 (tCons (tVar 9) tNil)) [9]) tNil)) (gName 3))
    (tSeq (tAsg (tIf (tTest (tOp (rEqD K) (tVar 3) (tLst tNil))) (tTup (tCons (tC (.str "size")) (tCons (tC (.int 0)) (tCons (tC (.bl true)) tNil)))) (tCall (sp_law_open_pair K) [] E0 (tCons (tVar 1) (tCons (tVar 3) tNil)))) (gName 4))
    (tSeq (tAsg (tCB (Evl.rListS K) (tCons (tVar 2) tNil)) (gName 5))
    (tSeq (tAsg (LamX.tLam LAMT (tried_TT K) (fun E => (tMeth (He.ga K "Table") "part" (sp_Tpart K) [] E (tVar 0) (tCons (tVar 5) tNil)))) (gName 6))
    (tSeq (tIfS (tOr (tTest (tOp (rNeD K) (tVar 5) (tVar 2))) (tTest (tOp rNotNK (tVar 4) (tC .non)))) (tRet (tAndV (tOp (rEqD K) (tVar 5) (tVar 2)) (tOp (rEqD K) (tVar 6) (tVar 4)))) tNext)
    (tSeq (tIfS (tTest (tOp (rNeD K) (tCall (sp_law_rows_of_table K) [] E0 (tCons (tMeth (He.ga K "Table") "part" (sp_Tpart K) [] E0 (tVar 0) (tCons (tCB (rTupS K) (tCons (tVar 2) tNil)) tNil)) tNil)) (tCall (sp_law_rows_of_table K) [] E0 (tCons (tVar 6) tNil)))) (tRet (tC (.bl false))) tNext)
    (tSeq (tAsg (tLc (iList K (tVar 3)) (gName 10) tYes (tOp (rIxL K) (tVar 1) (tVar 10)) [10]) (gName 7))
    (tSeq (tIfS (tTest (tOp (rNeD K) (tCall (sp_law_rows_of_table K) [] E0 (tCons (tVar 6) tNil)) (tLc (iList K (tVar 7)) (gName 11) tYes (tLc (iList K (tVar 3)) (gName 12) tYes (tBM K "list" (rIndexD K) (tVar 3) (tCons (tOp (rIxL K) (tVar 11) (tVar 12)) tNil)) [12]) [11]))) (tRet (tC (.bl false))) tNext)
    (tSeq (tAsg (tCall (sp_law_rules_kept K) [] E0 (tCons (tVar 1) tNil)) (gName 8))
    (tSeq (tIfS (tTest (tOp rNe (tCB (rOwnStr (He.ga K "Table") (sp_Tstr K) E0) (tCons (tVar 6) tNil)) (tCall (sp_law_rows_text K) [] E0 (tCons (tLc (iList K (tVar 7)) (gName 11) tYes (tLc (iList K (tVar 3)) (gName 12) tYes (tBM K "list" (rIndexD K) (tVar 3) (tCons (tOp (rIxL K) (tVar 11) (tVar 12)) tNil)) [12]) [11]) tNil)))) (tRet (tC (.bl false))) tNext)
    (tSeq (tIfS (tTest (tOp (rNeD K) (tLc (iList K (tVar 8)) (gName 13) (tTest (tOp (rIn K true) (tVar 13) (tMeth (He.ga K "Table") "rules" (sp_Trules K) [] E0 (tVar 6) tNil))) (tVar 13) [13]) (tLst tNil))) (tRet (tC (.bl false))) tNext)
    (tSeq (tAsg (tOp rSubK (tCB (Evl.rLenS K) (tCons (tVar 3) tNil)) (tC (.int 1))) (gSub (tVar 6) (tTup (tCons (tC (.int 0)) (tCons (tC (.int 0)) tNil))) (rOwnSet (He.ga K "Table") (sp_Tsetitem K) E0)))
    (tRet (tOp (rEqD K) (tCall (sp_law_rows_of_table K) [] E0 (tCons (tVar 0) tNil)) (tVar 1)))))))))))))))
abbrev s_law : Stmt := top 45
abbrev n_law : List Str := ["_law_script", "_law_pen_here", "_law_turn", "_law_rows", "_law_made", "_law_again", "_law_some", "_law_due", "_law_handed", "_law_seen", "_law_at", "_law_odd", "_law_bent", "_law_a", "_law_b", "_law_c", "_law_line", "_law_k"]
theorem sc_law : FnScope n_law ["_law_script"] (defScope s_law) := ⟨rfl, rfl, rfl, by decide +kernel, rfl, by decide +kernel, by decide +kernel⟩
def d_law : He.DefD := ⟨("law", none), "law", "law", defArgs s_law, defBody s_law, defScope s_law, [], []⟩
def t_law (K : PySem.W.Frag) (LAMT : List (Addr × Str)) : TS :=
  (tSeq (tAsg (tCall (sp_law_pen K) [] E0 (tCons (tVar 0) tNil)) (gName 1))
    (tSeq (tFor (iRng1 (tCons (tC (.int 3)) tNil)) (gName 2)
    (tSeq (tAsg (tCall (sp_law_rows_drawn K) [] E0 (tCons (tVar 1) tNil)) (gName 3))
    (tSeq (tAsg (tCall (sp_law_table_of_rows K) [] E0 (tCons (tVar 3) tNil)) (gName 4))
    (tFor (iRng1 (tCons (tC (.int 3)) tNil)) (gName 5)
    (tSeq (tAsg (tCall (sp_law_few K) [] E0 (tCons (tVar 1) (tCons (tLstRg (tRg1 (tCB (Evl.rLenS K) (tCons (tVar 3) tNil)))) (tCons (tCall (sp_law_draw K) [] E0 (tCons (tVar 1) (tCons (tC (.int 4)) tNil))) tNil)))) (gName 6))
    (tSeq (tAsg (tOp rCat (tVar 6) (tSl (rSlL K) (tVar 6) tNoPart (tPart (tCall (sp_law_draw K) [] E0 (tCons (tVar 1) (tCons (tC (.int 2)) tNil)))))) (gName 6))
    (tSeq (tPar 7 8 (tCons (tCall (sp_law_closed_values K) [] E0 (tCons (tVar 3) (tCons (tVar 6) tNil))) (tCons (tCB (Evl.rListS K) (tCons (tVar 6) tNil)) tNil)))
    (tSeq (tAsg (tMeth (He.ga K "Table") "generated" (sp_Tgenerated K) [] E0 (tVar 4) (tCons (tIf (tTest (tOp rGtK (tCall (sp_law_draw K) [] E0 (tCons (tVar 1) (tCons (tC (.int 3)) tNil))) (tC (.int 0)))) (tVar 8) (tCB (rTupS K) (tCons (tVar 8) tNil))) tNil)) (gName 9))
    (tSeq (tIfS (tOr (tTest (tOp rNe (tCB (rReprL K) (tCons (tVar 9) tNil)) (tCB (rReprL K) (tCons (tVar 7) tNil)))) (tTest (tOp (rNeD K) (tVar 8) (tVar 6)))) (tRet (tC (.bl false))) tNext)
    (tSeq (tDrop (tBM K "list" rAppend (tVar 9) (tCons (tC (.int 99)) tNil)))
    (tSeq (tIfS (tOr (tNot (tB (tCall (sp_law_part_right K LAMT) [] E0 (tCons (tVar 4) (tCons (tVar 3) (tCons (tVar 6) tNil)))))) (tNot (tB (tCall (sp_law_part_right K LAMT) [] E0 (tCons (tVar 4) (tCons (tVar 3) (tCons (tCall (sp_law_shuffled K) [] E0 (tCons (tVar 1) (tCons (tVar 7) tNil))) tNil))))))) (tRet (tC (.bl false))) tNext)
    (tSeq (tPar 10 11 (tCons (tCall (sp_law_draw K) [] E0 (tCons (tVar 1) (tCons (tOp rAddK (tCB (Evl.rLenS K) (tCons (tVar 6) tNil)) (tC (.int 1))) tNil))) (tCons (tCall (sp_law_pick K) [] E0 (tCons (tVar 1) (tCons (tLst (tCons (tUn rNegK (tC (.int 1))) (tCons (tCB (Evl.rLenS K) (tCons (tVar 3) tNil)) (tCons (tC (.int 60)) (tCons (tOp rPowK (tC (.int 10)) (tC (.int 20))) tNil))))) tNil))) tNil)))
    (tSeq (tAsg (tOp rCat (tOp rCat (tSl (rSlL K) (tVar 6) tNoPart (tPart (tVar 10))) (tLst (tCons (tVar 11) (tCons (tUn rNegK (tC (.int 7))) tNil)))) (tSl (rSlL K) (tVar 6) (tPart (tVar 10)) tNoPart)) (gName 12))
    (tSeq (tIfS (tTest (tOp (rNeD K) (LamX.tLam LAMT (tried_TT K) (fun E => (tMeth (He.ga K "Table") "generated" (sp_Tgenerated K) [] E (tVar 4) (tCons (tVar 12) tNil)))) (tTup (tCons (tC (.str "value")) (tCons (tVar 11) (tCons (tC (.bl true)) tNil)))))) (tRet (tC (.bl false))) tNext)
    (tSeq (tIfS (tTest (tOp (rNeD K) (LamX.tLam LAMT (tried_TT K) (fun E => (tMeth (He.ga K "Table") "part" (sp_Tpart K) [] E (tVar 4) (tCons (tCB (rTupS K) (tCons (tVar 12) tNil)) tNil)))) (tTup (tCons (tC (.str "value")) (tCons (tVar 11) (tCons (tC (.bl true)) tNil)))))) (tRet (tC (.bl false))) tNext)
    (tSeq (tAsg (tLc (iRng1 (tCons (tC (.int 3)) tNil)) (gName 17) tYes (tCall (sp_law_draw K) [] E0 (tCons (tVar 1) (tCons (tCB (Evl.rLenS K) (tCons (tVar 3) tNil)) tNil))) [17]) (gUnl K 3 (gCons (gName 13) (gCons (gName 14) (gCons (gName 15) gNil)))))
    (tSeq (tAsg (tTup (tCons (tVar 15) (tCons (tOp (rIxL K) (tVar 3) (tVar 13)) tNil))) (gTup K 2 (gCons (gSub (tVar 4) (tTup (tCons (tVar 13) (tCons (tVar 14) tNil))) (rOwnSet (He.ga K "Table") (sp_Tsetitem K) E0)) (gCons (gName 16) gNil))))
    (tSeq (tAsg (tVar 15) (gSub (tVar 16) (tVar 14) rSetL))
    (tIfS (tOr (tTest (tOp (rNeD K) (tMeth (He.ga K "Table") "generated" (sp_Tgenerated K) [] E0 (tVar 4) (tCons (tVar 6) tNil)) (tCall (sp_law_closed_values K) [] E0 (tCons (tVar 3) (tCons (tVar 6) tNil))))) (tNot (tB (tCall (sp_law_part_right K LAMT) [] E0 (tCons (tVar 4) (tCons (tVar 3) (tCons (tVar 6) tNil))))))) (tRet (tC (.bl false))) tNext)))))))))))))))))))
    (tRet (tC (.bl true)))))
end K28
end
section
namespace K28
open PySem PySem.Spec L2 PyProof.Rows
theorem w_put_row {P : Program} {w : World} {K : PySem.W.Frag} {mg : Str → Option Value} {base : Heap} (T : Txt P K mg)
    {f : Addr} {cdv : Value} {A : Around} {outer : List Env} {s : Shared} {H : Hp} {E : XK} (hr : Room 1 (A.deeper (envOfC "put_row" (defScope s_put_row) s.heap.objs.size f cdv))) :
    PSs (cxOf (L2.CX P w) P w K mg base n_put_row "put_row" (defScope s_put_row) f cdv A outer s H E) (defBody s_put_row) (t_put_row K) := by
  have nd := sc_put_row.nd
  exact (pss_cons (ps_set (i := 2) nd rfl (Or.inl rfl) (pe_ix ix_tup (pv 1) pe_int (fun _ _ => rfl)))
    (pss_cons (ps_for (passes_of rfl) rfl (pi_tup (pe_slice sl_tup (pv 1) (po_some pe_int) po_none)) (pg_name (i := 3) nd rfl (Or.inl rfl))
    (pss_one (ps_set (i := 2) nd rfl (Or.inl rfl) (pe_ix ix_list (pe_ix ix_list (pv 0) (pv 2) (fun _ _ => rfl)) (pv 3) (fun _ _ => rfl)))))
    (pss_one (ps_ret (pv 2)))))
theorem w_equations_of {P : Program} {w : World} {K : PySem.W.Frag} {mg : Str → Option Value} {base : Heap} (T : Txt P K mg)
    {f : Addr} {cdv : Value} {A : Around} {outer : List Env} {s : Shared} {H : Hp} {E : XK} (hr : Room 1 (A.deeper (envOfC "equations_of" (defScope s_equations_of) s.heap.objs.size f cdv))) :
    PSs (cxOf (L2.CX P w) P w K mg base n_equations_of "equations_of" (defScope s_equations_of) f cdv A outer s H E) (defBody s_equations_of) (t_equations_of K) := by
  have nd := sc_equations_of.nd
  exact (pss_cons (ps_set (i := 4) nd rfl (Or.inl rfl) (pe_disp (pps_cons pe_str (pe_lst (pa_cons (pe_tup (pa_cons (pe_tup (pa_cons (pv 1) (pa_cons (pv 2) pa_nil))) (pa_cons (pe_tup (pa_cons (pv 2) (pa_cons (pv 1) pa_nil))) pa_nil))) pa_nil)) (pps_cons pe_str (pe_lst (pa_cons (pe_tup (pa_cons (pe_tup (pa_cons (pv 1) (pa_cons (pv 2) (pa_cons (pv 1) (pa_cons (pv 3) (pa_cons (pv 1) pa_nil)))))) (pa_cons (pe_tup (pa_cons (pv 1) (pa_cons (pv 2) (pa_cons (pv 3) (pa_cons (pv 1) pa_nil))))) pa_nil))) pa_nil)) (pps_cons pe_str (pe_lst (pa_cons (pe_tup (pa_cons (pe_tup (pa_cons (pv 1) (pa_cons (pv 2) (pa_cons (pv 1) pa_nil)))) (pa_cons (pe_tup (pa_cons (pv 1) (pa_cons (pv 2) pa_nil))) pa_nil))) pa_nil)) (pps_cons pe_str (pe_lst (pa_cons (pe_tup (pa_cons (pe_tup (pa_cons (pv 1) (pa_cons (pv 2) (pa_cons (pv 1) pa_nil)))) (pa_cons (pe_tup (pa_cons (pv 2) (pa_cons (pv 1) pa_nil))) pa_nil))) pa_nil)) (pps_cons pe_str (pe_lst (pa_cons (pe_tup (pa_cons (pe_tup (pa_cons (pv 1) (pa_cons (pv 2) (pa_cons (pv 3) pa_nil)))) (pa_cons (pe_tup (pa_cons (pv 1) (pa_cons (pv 3) pa_nil))) pa_nil))) pa_nil)) (pps_cons pe_str (pe_lst (pa_cons (pe_tup (pa_cons (pe_tup (pa_cons (pv 1) (pa_cons (pv 2) pa_nil))) (pa_cons (pe_tup (pa_cons (pv 1) pa_nil)) pa_nil))) pa_nil)) (pps_cons pe_str (pe_lst (pa_cons (pe_tup (pa_cons (pe_tup (pa_cons (pv 1) (pa_cons (pv 2) pa_nil))) (pa_cons (pe_tup (pa_cons (pv 2) pa_nil)) pa_nil))) pa_nil)) (pps_cons pe_str (pe_lst (pa_cons (pe_tup (pa_cons (pe_tup (pa_cons (pv 1) (pa_cons (pv 1) (pa_cons (pv 2) pa_nil)))) (pa_cons (pe_tup (pa_cons (pv 2) pa_nil)) pa_nil))) (pa_cons (pe_tup (pa_cons (pe_tup (pa_cons (pv 2) (pa_cons (pv 1) (pa_cons (pv 1) pa_nil)))) (pa_cons (pe_tup (pa_cons (pv 2) pa_nil)) pa_nil))) pa_nil))) pps_nil)))))))) (by rfl) (by rfl) (fun z => by cases z) (by decide)))
    (pss_cons (ps_set (i := 5) nd rfl (Or.inl rfl) (pe_ifExp (pt_cmpR op_in_seq (pv 0) (g_tup (T.glo "IDLE" (by decide +kernel))) (by rfl)) (pe_lst (pa_cons (pe_tup (pa_cons (pe_tup (pa_cons (pv 1) (pa_cons (pv 1) pa_nil))) (pa_cons (pe_tup (pa_cons (pv 1) pa_nil)) pa_nil))) pa_nil)) (pe_lst pa_nil)))
    (pss_one (ps_ret (pe_op op_cat (pe_dget2 (hu_of hr) (pv 4) (pv 0) (pe_lst pa_nil) ⟨rfl, rfl, rfl, rfl⟩) (pv 5))))))
theorem w_holds_for {P : Program} {w : World} {K : PySem.W.Frag} {mg : Str → Option Value} {base : Heap} (T : Txt P K mg)
    (G_equations_of : Good P w K mg base 2 (He.ga K "equations_of") ["rule", "x", "y", "z"] (sp_equations_of K))
    (G_put_row : Good P w K mg base 2 (He.ga K "put_row") ["rows", "values"] (sp_put_row K))
    {f : Addr} {cdv : Value} {A : Around} {outer : List Env} {s : Shared} {H : Hp} {E : XK} (hr : Room 3 (A.deeper (envOfC "holds_for" (defScope s_holds_for) s.heap.objs.size f cdv))) :
    PSs (cxOf (L2.CX P w) P w K mg base n_holds_for "holds_for" (defScope s_holds_for) f cdv A outer s H E) (defBody s_holds_for) (t_holds_for K) := by
  have nd := sc_holds_for.nd
  exact (pss_cons (ps_if (PW.pt (pw_and (pt_cmpR op_in_seq (pv 1) (g_tup (T.glo "GROUPED" (by decide +kernel))) (by rfl)) (pw_and1 (pt_cmpR op_ne (pe_ix ix_list (pe_ix ix_list (pv 0) (pe_ix ix_list (pe_ix ix_list (pv 0) (pv 2) (fun _ _ => rfl)) (pv 3) (fun _ _ => rfl)) (fun _ _ => rfl)) (pv 4) (fun _ _ => rfl)) (pe_ix ix_list (pe_ix ix_list (pv 0) (pv 2) (fun _ _ => rfl)) (pe_ix ix_list (pe_ix ix_list (pv 0) (pv 3) (fun _ _ => rfl)) (pv 4) (fun _ _ => rfl)) (fun _ _ => rfl)) (nomark _))))) (pss_one (ps_ret pe_bl)) pss_nil)
    (pss_cons (ps_for (passes_of rfl) rfl (pi_list (f_call T G_equations_of (hr.mono (by decide)) (T.glo "equations_of" (by decide +kernel)) (pa_cons (pv 1) (pa_cons (pv 2) (pa_cons (pv 3) (pa_cons (pv 4) pa_nil)))))) (pg_tup rfl (pgs_cons (pg_name (i := 5) nd rfl (Or.inl rfl)) (pgs_cons (pg_name (i := 6) nd rfl (Or.inl rfl)) pgs_nil)))
    (pss_one (ps_if (pt_cmpR op_ne (f_call T G_put_row (hr.mono (by decide)) (T.glo "put_row" (by decide +kernel)) (pa_cons (pv 0) (pa_cons (pv 5) pa_nil))) (f_call T G_put_row (hr.mono (by decide)) (T.glo "put_row" (by decide +kernel)) (pa_cons (pv 0) (pa_cons (pv 6) pa_nil))) (nomark _)) (pss_one (ps_ret pe_bl)) pss_nil)))
    (pss_one (ps_ret pe_bl))))
theorem w_Tinit {P : Program} {w : World} {K : PySem.W.Frag} {mg : Str → Option Value} {base : Heap} (T : Txt P K mg)
    (X_BadSize : Good P w K mg base 2 (He.ma K (He.ga K "BadSize") "__init__") ["self", "size"] (sp_BadSize K))
    {f : Addr} {cdv : Value} {A : Around} {outer : List Env} {s : Shared} {H : Hp} {E : XK} (hr : Room 5 (A.deeper (envOfC "Table.__init__" (defScope s_Tinit) s.heap.objs.size f cdv))) :
    PSs (cxOf (L2.CX P w) P w K mg base n_Tinit "Table.__init__" (defScope s_Tinit) f cdv A outer s H E) (defBody s_Tinit) (t_Tinit K E) := by
  have nd := sc_Tinit.nd
  exact (pss_cons (ps_if (pt_not (pt_chain op_le op_le pe_int (pv 1) (g_largest T))) (pss_one (ps_raise rfl (takes_of rfl rfl rfl rfl) (x_make T (x := "BadSize") (by decide +kernel) X_BadSize (hr.mono (by decide)) (pa_cons (pv 1) pa_nil) (T.glo "BadSize" (by decide +kernel))))) pss_nil)
    (pss_cons (ps_fld (pv 0) (pv 1) rfl)
    (pss_cons (ps_fld (pv 0) (pv 2) rfl)
    (pss_one (ps_if (pt_cmpR op_isN (pv 2) pe_non (nomark _)) (pss_one (ps_fld (pv 0) (pe_lc (own := [("a", 3)]) (g := (gName 3)) (tt := tYes) rfl nd (pi_range1 (by rfl) (T.free "range" (by decide +kernel)) (pa_cons (pv 1) pa_nil)) (blkOk_by (by kernel_rfl)) (fun _ _ _ _ _ => pg_name (i := 3) nd rfl (by first | exact Or.inl rfl | exact Or.inr rfl)) (fun _ _ _ _ _ => pts_nil) (fun _ _ _ _ _ => (pe_lc (own := [("b", 4)]) (g := (gName 4)) (tt := tYes) rfl nd (pi_range1 (by rfl) (T.free "range" (by decide +kernel)) (pa_cons (pv 1) pa_nil)) (blkOk_by (by kernel_rfl)) (fun _ _ _ _ _ => pg_name (i := 4) nd rfl (by first | exact Or.inl rfl | exact Or.inr rfl)) (fun _ _ _ _ _ => pts_nil) (fun _ _ _ _ _ => pe_int)))) rfl)) pss_nil)))))
theorem w_Tcheck {P : Program} {w : World} {K : PySem.W.Frag} {mg : Str → Option Value} {base : Heap} (T : Txt P K mg)
    (X_BadValue : Good P w K mg base 2 (He.ma K (He.ga K "BadValue") "__init__") ["self", "value"] (sp_BadValue K))
    {f : Addr} {cdv : Value} {A : Around} {outer : List Env} {s : Shared} {H : Hp} {E : XK} (hr : Room 5 (A.deeper (envOfC "Table.check" (defScope s_Tcheck) s.heap.objs.size f cdv))) :
    PSs (cxOf (L2.CX P w) P w K mg base n_Tcheck "Table.check" (defScope s_Tcheck) f cdv A outer s H E) (defBody s_Tcheck) (t_Tcheck K E) := by
  have nd := sc_Tcheck.nd
  exact (pss_one (ps_for (passes_of rfl) rfl (pi_seqv (pv 1)) (pg_name (i := 2) nd rfl (Or.inl rfl))
    (pss_one (ps_if (pt_cmpR op_out_rng (pv 2) (c_rangev (T.free "range" (by decide +kernel)) (pe_fld (pv 0) rfl)) (by rfl)) (pss_one (ps_raise rfl (takes_of rfl rfl rfl rfl) (x_make T (x := "BadValue") (by decide +kernel) X_BadValue (hr.mono (by decide)) (pa_cons (pv 2) pa_nil) (T.glo "BadValue" (by decide +kernel))))) pss_nil))))
theorem w_Tgetitem {P : Program} {w : World} {K : PySem.W.Frag} {mg : Str → Option Value} {base : Heap} (T : Txt P K mg)
    (G_Tcheck : Good P w K mg base 6 (mTab K "check") ["self", "values"] (sp_Tcheck K))
    {f : Addr} {cdv : Value} {A : Around} {outer : List Env} {s : Shared} {H : Hp} {E : XK} (hr : Room 8 (A.deeper (envOfC "Table.__getitem__" (defScope s_Tgetitem) s.heap.objs.size f cdv))) :
    PSs (cxOf (L2.CX P w) P w K mg base n_Tgetitem "Table.__getitem__" (defScope s_Tgetitem) f cdv A outer s H E) (defBody s_Tgetitem) (t_Tgetitem K E) := by
  have nd := sc_Tgetitem.nd
  exact (pss_cons (ps_asg (pv 1) (pg_tup rfl (pgs_cons (pg_name (i := 2) nd rfl (Or.inl rfl)) (pgs_cons (pg_name (i := 3) nd rfl (Or.inl rfl)) pgs_nil))))
    (pss_cons (ps_expr (o_meth T (m := "check") (by decide +kernel) G_Tcheck (hr.mono (by decide)) (thru (takes_of rfl rfl rfl rfl)) (pv 0) (pa_cons (pe_lst (pa_cons (pv 2) (pa_cons (pv 3) pa_nil))) pa_nil)))
    (pss_one (ps_ret (pe_ix ix_list (pe_ix ix_list (pe_fld (pv 0) rfl) (pv 2) (fun _ _ => rfl)) (pv 3) (fun _ _ => rfl))))))
theorem w_Tsetitem {P : Program} {w : World} {K : PySem.W.Frag} {mg : Str → Option Value} {base : Heap} (T : Txt P K mg)
    (G_Tcheck : Good P w K mg base 6 (mTab K "check") ["self", "values"] (sp_Tcheck K))
    {f : Addr} {cdv : Value} {A : Around} {outer : List Env} {s : Shared} {H : Hp} {E : XK} (hr : Room 8 (A.deeper (envOfC "Table.__setitem__" (defScope s_Tsetitem) s.heap.objs.size f cdv))) :
    PSs (cxOf (L2.CX P w) P w K mg base n_Tsetitem "Table.__setitem__" (defScope s_Tsetitem) f cdv A outer s H E) (defBody s_Tsetitem) (t_Tsetitem K E) := by
  have nd := sc_Tsetitem.nd
  exact (pss_cons (ps_asg (pv 1) (pg_tup rfl (pgs_cons (pg_name (i := 3) nd rfl (Or.inl rfl)) (pgs_cons (pg_name (i := 4) nd rfl (Or.inl rfl)) pgs_nil))))
    (pss_cons (ps_expr (o_meth T (m := "check") (by decide +kernel) G_Tcheck (hr.mono (by decide)) (thru (takes_of rfl rfl rfl rfl)) (pv 0) (pa_cons (pe_lst (pa_cons (pv 3) (pa_cons (pv 4) (pa_cons (pv 2) pa_nil)))) pa_nil)))
    (pss_one (ps_asg (pv 2) (pg_sub (pe_ix ix_list (pe_fld (pv 0) rfl) (pv 3) (fun _ _ => rfl)) (pv 4) set_list)))))
theorem w_Tstr {P : Program} {w : World} {K : PySem.W.Frag} {mg : Str → Option Value} {base : Heap} (T : Txt P K mg)
    {f : Addr} {cdv : Value} {A : Around} {outer : List Env} {s : Shared} {H : Hp} {E : XK} (hr : Room 1 (A.deeper (envOfC "Table.__str__" (defScope s_Tstr) s.heap.objs.size f cdv))) :
    PSs (cxOf (L2.CX P w) P w K mg base n_Tstr "Table.__str__" (defScope s_Tstr) f cdv A outer s H E) (defBody s_Tstr) (t_Tstr K) := by
  have nd := sc_Tstr.nd
  exact (pss_one (ps_ret (pe_join pe_str (pe_lc (own := [("row", 1)]) (g := (gName 1)) (tt := tYes) rfl nd (pi_list (pe_fld (pv 0) rfl)) (blkOk_by (by kernel_rfl)) (fun _ _ _ _ _ => pg_name (i := 1) nd rfl (by first | exact Or.inl rfl | exact Or.inr rfl)) (fun _ _ _ _ _ => pts_nil) (fun _ _ _ _ _ => (pe_join pe_str (pe_lc (own := [("value", 2)]) (g := (gName 2)) (tt := tYes) rfl nd (pi_list (pv 1)) (blkOk_by (by kernel_rfl)) (fun _ _ _ _ _ => pg_name (i := 2) nd rfl (by first | exact Or.inl rfl | exact Or.inr rfl)) (fun _ _ _ _ _ => pts_nil) (fun _ _ _ _ _ => (c_str (T.free "str" (by decide +kernel)) (pv 2))))))))))
theorem w_Tbreaks {P : Program} {w : World} {K : PySem.W.Frag} {mg : Str → Option Value} {base : Heap} (T : Txt P K mg)
    (G_holds_for : Good P w K mg base 4 (He.ga K "holds_for") ["rows", "rule", "x", "y", "z"] (sp_holds_for K))
    {f : Addr} {cdv : Value} {A : Around} {outer : List Env} {s : Shared} {H : Hp} {E : XK} (hr : Room 5 (A.deeper (envOfC "Table.breaks" (defScope s_Tbreaks) s.heap.objs.size f cdv))) :
    PSs (cxOf (L2.CX P w) P w K mg base n_Tbreaks "Table.breaks" (defScope s_Tbreaks) f cdv A outer s H E) (defBody s_Tbreaks) (t_Tbreaks K) := by
  have nd := sc_Tbreaks.nd
  exact (pss_cons (ps_if (pt_cmpR op_notIn_seq (pv 1) (g_tup (T.glo "RULES" (by decide +kernel))) (by rfl)) (pss_one ps_never) pss_nil)
    (pss_cons (ps_for (passes_of rfl) rfl (pi_range1 (by rfl) (T.free "range" (by decide +kernel)) (pa_cons (pe_fld (pv 0) rfl) pa_nil)) (pg_name (i := 2) nd rfl (Or.inl rfl))
    (pss_one (ps_for (passes_of rfl) rfl (pi_range1 (by rfl) (T.free "range" (by decide +kernel)) (pa_cons (pe_fld (pv 0) rfl) pa_nil)) (pg_name (i := 3) nd rfl (Or.inl rfl))
    (pss_one (ps_for (passes_of rfl) rfl (pi_range1 (by rfl) (T.free "range" (by decide +kernel)) (pa_cons (pe_fld (pv 0) rfl) pa_nil)) (pg_name (i := 4) nd rfl (Or.inl rfl))
    (pss_one (ps_if (pt_not (pt_val (f_call T G_holds_for (hr.mono (by decide)) (T.glo "holds_for" (by decide +kernel)) (pa_cons (pe_fld (pv 0) rfl) (pa_cons (pv 1) (pa_cons (pv 2) (pa_cons (pv 3) (pa_cons (pv 4) pa_nil)))))))) (pss_one (ps_ret (pe_tup (pa_cons (pv 2) (pa_cons (pv 3) (pa_cons (pv 4) pa_nil)))))) pss_nil)))))))
    (pss_one (ps_ret pe_non))))
theorem w_Trules {P : Program} {w : World} {K : PySem.W.Frag} {mg : Str → Option Value} {base : Heap} (T : Txt P K mg)
    (G_Tbreaks : Good P w K mg base 6 (mTab K "breaks") ["self", "rule"] (sp_Tbreaks K))
    {f : Addr} {cdv : Value} {A : Around} {outer : List Env} {s : Shared} {H : Hp} {E : XK} (hr : Room 7 (A.deeper (envOfC "Table.rules" (defScope s_Trules) s.heap.objs.size f cdv))) :
    PSs (cxOf (L2.CX P w) P w K mg base n_Trules "Table.rules" (defScope s_Trules) f cdv A outer s H E) (defBody s_Trules) (t_Trules K) := by
  have nd := sc_Trules.nd
  exact (pss_one (ps_ret (pe_lc (own := [("rule", 1)]) (g := (gName 1)) (tt := (tTest (tOp rIsNK (tMeth (He.ga K "Table") "breaks" (sp_Tbreaks K) [] E0 (tVar 0) (tCons (tVar 1) tNil)) (tC .non)))) rfl nd (pi_tup (g_tup (T.glo "RULES" (by decide +kernel)))) (blkOk_by (by kernel_rfl)) (fun _ _ _ _ _ => pg_name (i := 1) nd rfl (by first | exact Or.inl rfl | exact Or.inr rfl)) (fun _ _ _ _ _ => pts_one (pt_cmpR op_isN (o_meth T (m := "breaks") (by decide +kernel) G_Tbreaks (hr.mono (by decide)) passL (pv 0) (pa_cons (pv 1) pa_nil)) pe_non (nomark _))) (fun _ _ _ _ _ => (pv 1)))))
theorem w_Tgenerated {P : Program} {w : World} {K : PySem.W.Frag} {mg : Str → Option Value} {base : Heap} (T : Txt P K mg)
    (G_Tcheck : Good P w K mg base 6 (mTab K "check") ["self", "values"] (sp_Tcheck K))
    {f : Addr} {cdv : Value} {A : Around} {outer : List Env} {s : Shared} {H : Hp} {E : XK} (hr : Room 8 (A.deeper (envOfC "Table.generated" (defScope s_Tgenerated) s.heap.objs.size f cdv))) :
    PSs (cxOf (L2.CX P w) P w K mg base n_Tgenerated "Table.generated" (defScope s_Tgenerated) f cdv A outer s H E) (defBody s_Tgenerated) (t_Tgenerated K E) := by
  have nd := sc_Tgenerated.nd
  exact (pss_cons (ps_expr (o_meth T (m := "check") (by decide +kernel) G_Tcheck (hr.mono (by decide)) (thru (takes_of rfl rfl rfl rfl)) (pv 0) (pa_cons (pv 1) pa_nil)))
    (pss_cons (ps_setLc (i := 3) (own := [("value", 2)]) (g := (gName 2)) (tt := (tTest (tOp (rIn K false) (tVar 2) (tVar 1)))) rfl nd rfl rfl (sw_true rfl rfl rfl (by decide +kernel)) (pi_range1 (by rfl) (T.free "range" (by decide +kernel)) (pa_cons (pe_fld (pv 0) rfl) pa_nil)) (blkOk_by (by kernel_rfl)) (fun _ _ _ _ _ => pg_name (i := 2) nd rfl (by first | exact Or.inl rfl | exact Or.inr rfl)) (fun _ _ _ _ _ => pts_one (pt_cmpR op_in_seq (pv 2) (pv 1) (by rfl))) (fun _ _ _ _ _ => (pv 2)))
    (pss_cons (ps_set (i := 4) nd rfl (Or.inl rfl) pe_int)
    (pss_cons (ps_while (passes_of rfl) (pt_cmpR op_lt (pv 4) (c_len (T.free "len" (by decide +kernel)) (pv 3)) (nomark _))
    (pss_cons (ps_for (passes_of rfl) rfl (pi_list (c_list (T.free "list" (by decide +kernel)) (pe_slice sl_list (pv 3) po_none (po_some (pe_op op_add (pv 4) pe_int))))) (pg_name (i := 2) nd rfl (Or.inl rfl))
    (pss_one (ps_for (passes_of rfl) rfl (pi_tup (pe_tup (pa_cons (pe_ix ix_list (pe_ix ix_list (pe_fld (pv 0) rfl) (pe_ix ix_list (pv 3) (pv 4) (fun _ _ => rfl)) (fun _ _ => rfl)) (pv 2) (fun _ _ => rfl)) (pa_cons (pe_ix ix_list (pe_ix ix_list (pe_fld (pv 0) rfl) (pv 2) (fun _ _ => rfl)) (pe_ix ix_list (pv 3) (pv 4) (fun _ _ => rfl)) (fun _ _ => rfl)) pa_nil)))) (pg_name (i := 5) nd rfl (Or.inl rfl))
    (pss_one (ps_if (pt_cmpR op_notIn_seq (pv 5) (pv 3) (by rfl)) (pss_one (ps_expr (l_append (pv 3) (pa_cons (pv 5) pa_nil)))) pss_nil)))))
    (pss_one (ps_aug (i := 4) nd rfl (Or.inl rfl) pe_int ip_add))))
    (pss_one (ps_ret (c_sorted (T.free "sorted" (by decide +kernel)) (pe_lc (own := [("value", 2)]) (g := (gName 2)) (tt := tYes) rfl nd (pi_list (pv 3)) (blkOk_by (by kernel_rfl)) (fun _ _ _ _ _ => pg_name (i := 2) nd rfl (by first | exact Or.inl rfl | exact Or.inr rfl)) (fun _ _ _ _ _ => pts_nil) (fun _ _ _ _ _ => (c_int (T.free "int" (by decide +kernel)) (pv 2)))))))))))
theorem w_Tpart {P : Program} {w : World} {K : PySem.W.Frag} {mg : Str → Option Value} {base : Heap} (T : Txt P K mg)
    (G_Tcheck : Good P w K mg base 6 (mTab K "check") ["self", "values"] (sp_Tcheck K))
    (X_BadSize : Good P w K mg base 2 (He.ma K (He.ga K "BadSize") "__init__") ["self", "size"] (sp_BadSize K))
    (X_NotClosed : Good P w K mg base 2 (He.ma K (He.ga K "NotClosed") "__init__") ["self", "left", "right"] (sp_NotClosed K))
    (G_Tinit2 : Good P w K mg base 6 (mTab K "__init__") ["self", "size", "rows"] (sp_Tinit K))
    {f : Addr} {cdv : Value} {A : Around} {outer : List Env} {s : Shared} {H : Hp} {E : XK} (hr : Room 11 (A.deeper (envOfC "Table.part" (defScope s_Tpart) s.heap.objs.size f cdv))) :
    PSs (cxOf (L2.CX P w) P w K mg base n_Tpart "Table.part" (defScope s_Tpart) f cdv A outer s H E) (defBody s_Tpart) (t_Tpart K E) := by
  have nd := sc_Tpart.nd
  exact (pss_cons (ps_expr (o_meth T (m := "check") (by decide +kernel) G_Tcheck (hr.mono (by decide)) (thru (takes_of rfl rfl rfl rfl)) (pv 0) (pa_cons (pv 1) pa_nil)))
    (pss_cons (ps_set (i := 2) nd rfl (Or.inr rfl) (pe_lc (own := [("value", 6)]) (g := (gName 6)) (tt := (tTest (tOp (rIn K false) (tVar 6) (tVar 1)))) rfl nd (pi_range1 (by rfl) (T.free "range" (by decide +kernel)) (pa_cons (pe_fld (pv 0) rfl) pa_nil)) (blkOk_by (by kernel_rfl)) (fun _ _ _ _ _ => pg_name (i := 6) nd rfl (by first | exact Or.inl rfl | exact Or.inr rfl)) (fun _ _ _ _ _ => pts_one (pt_cmpR op_in_seq (pv 6) (pv 1) (by rfl))) (fun _ _ _ _ _ => (pv 6))))
    (pss_cons (ps_if (pt_cmpR (op_eqD hr.units) (pv 2) (pe_lst pa_nil) (nomark _)) (pss_one (ps_raise rfl (takes_of rfl rfl rfl rfl) (x_make T (x := "BadSize") (by decide +kernel) X_BadSize (hr.mono (by decide)) (pa_cons pe_int pa_nil) (T.glo "BadSize" (by decide +kernel))))) pss_nil)
    (pss_cons (ps_for (passes_of rfl) rfl (pi_list (pv 2)) (pg_name (i := 3) nd rfl (Or.inl rfl))
    (pss_one (ps_for (passes_of rfl) rfl (pi_list (pv 2)) (pg_name (i := 4) nd rfl (Or.inl rfl))
    (pss_one (ps_if (pt_cmpR op_notIn_seq (pe_ix ix_list (pe_ix ix_list (pe_fld (pv 0) rfl) (pv 3) (fun _ _ => rfl)) (pv 4) (fun _ _ => rfl)) (pv 2) (by rfl)) (pss_one (ps_raise rfl (takes_of rfl rfl rfl rfl) (x_make T (x := "NotClosed") (by decide +kernel) X_NotClosed (hr.mono (by decide)) (pa_cons (pv 3) (pa_cons (pv 4) pa_nil)) (T.glo "NotClosed" (by decide +kernel))))) pss_nil)))))
    (pss_cons (ps_set (i := 5) nd rfl (Or.inr rfl) (pe_dc (own := [("at", 7), ("value", 6)]) (g := (gTup K 2 (gCons (gName 7) (gCons (gName 6) gNil)))) (tt := tYes) rfl nd (pi_enum (by rfl) (T.free "enumerate" (by decide +kernel)) (pa_cons (pv 2) pa_nil)) (blkOk_by (by kernel_rfl)) (fun _ _ _ _ _ => pg_tup rfl (pgs_cons (pg_name (i := 7) nd rfl (by first | exact Or.inl rfl | exact Or.inr rfl)) (pgs_cons (pg_name (i := 6) nd rfl (by first | exact Or.inl rfl | exact Or.inr rfl)) pgs_nil))) (fun _ _ _ _ _ => pts_nil) (fun _ _ _ _ _ => (pv 6)) (fun _ _ _ _ _ => (pv 7))))
    (pss_one (ps_ret (o_make2 T G_Tinit2 (hr.mono (by decide)) passL (pa_cons (c_len (T.free "len" (by decide +kernel)) (pv 2)) (pa_cons (pe_lc (own := [("a", 8)]) (g := (gName 8)) (tt := tYes) rfl nd (pi_list (pv 2)) (blkOk_by (by kernel_rfl)) (fun _ _ _ _ _ => pg_name (i := 8) nd rfl (by first | exact Or.inl rfl | exact Or.inr rfl)) (fun _ _ _ _ _ => pts_nil) (fun _ _ _ _ _ => (pe_lc (own := [("b", 9)]) (g := (gName 9)) (tt := tYes) rfl nd (pi_list (pv 2)) (blkOk_by (by kernel_rfl)) (fun _ _ _ _ _ => pg_name (i := 9) nd rfl (by first | exact Or.inl rfl | exact Or.inr rfl)) (fun _ _ _ _ _ => pts_nil) (fun _ _ _ _ _ => (pe_dget (hu_of hr) (pv 5) (pe_ix ix_list (pe_ix ix_list (pe_fld (pv 0) rfl) (pv 8) (fun _ _ => rfl)) (pv 9) (fun _ _ => rfl)) (fun _ _ => rfl)))))) pa_nil)) (T.glo "Table" (by decide +kernel))))))))))
theorem w_law_pen {P : Program} {w : World} {K : PySem.W.Frag} {mg : Str → Option Value} {base : Heap} (T : Txt P K mg)
    {f : Addr} {cdv : Value} {A : Around} {outer : List Env} {s : Shared} {H : Hp} {E : XK} (hr : Room 1 (A.deeper (envOfC "_law_pen" (defScope s_law_pen) s.heap.objs.size f cdv))) :
    PSs (cxOf (L2.CX P w) P w K mg base n_law_pen "_law_pen" (defScope s_law_pen) f cdv A outer s H E) (defBody s_law_pen) (t_law_pen K) := by
  have nd := sc_law_pen.nd
  exact (pss_one (ps_ret (pe_disp (pps_cons pe_str (c_list (T.free "list" (by decide +kernel)) (pe_slice sl_list (pv 0) po_none (po_some pe_int))) (pps_cons pe_str pe_int (pps_cons pe_str pe_int pps_nil))) (by rfl) (by rfl) (fun z => by cases z) (by decide))))
theorem w_law_draw {P : Program} {w : World} {K : PySem.W.Frag} {mg : Str → Option Value} {base : Heap} (T : Txt P K mg)
    {f : Addr} {cdv : Value} {A : Around} {outer : List Env} {s : Shared} {H : Hp} {E : XK} (hr : Room 1 (A.deeper (envOfC "_law_draw" (defScope s_law_draw) s.heap.objs.size f cdv))) :
    PSs (cxOf (L2.CX P w) P w K mg base n_law_draw "_law_draw" (defScope s_law_draw) f cdv A outer s H E) (defBody s_law_draw) (t_law_draw K) := by
  have nd := sc_law_draw.nd
  exact (pss_cons (ps_if (pt_cmpR op_gt (pe_dget (hu_of hr) (pv 0) pe_str (fun _ _ => rfl)) pe_int (nomark _)) (pss_cons (ps_set (i := 2) nd rfl (Or.inl rfl) (pe_op op_mod (c_int (T.free "int" (by decide +kernel)) (pe_dget (hu_of hr) (pv 0) pe_str (fun _ _ => rfl))) (pv 1)))
    (pss_cons (ps_dput (hu_of hr) (pv 0) pe_str (pe_op op_fdivW (pe_dget (hu_of hr) (pv 0) pe_str (fun _ _ => rfl)) (pv 1)) rfl)
    (pss_one (ps_ret (pv 2))))) pss_nil)
    (pss_cons (ps_set (i := 3) nd rfl (Or.inl rfl) (pe_dget (hu_of hr) (pv 0) pe_str (fun _ _ => rfl)))
    (pss_cons (ps_dput (hu_of hr) (pv 0) pe_str (pe_op op_add (pv 3) pe_int) rfl)
    (pss_cons (ps_set (i := 4) nd rfl (Or.inl rfl) (pe_op op_add (pe_op op_mul pe_int (pv 3)) pe_int))
    (pss_cons (ps_if (pt_cmpR (op_neD hr.units) (pe_dget (hu_of hr) (pv 0) pe_str (fun _ _ => rfl)) (pe_lst pa_nil) (nomark _)) (pss_one (ps_set (i := 4) nd rfl (Or.inl rfl) (pe_ix ix_list (pe_dget (hu_of hr) (pv 0) pe_str (fun _ _ => rfl)) (pe_op op_mod (c_int (T.free "int" (by decide +kernel)) (pv 3)) (c_len (T.free "len" (by decide +kernel)) (pe_dget (hu_of hr) (pv 0) pe_str (fun _ _ => rfl)))) (fun _ _ => rfl)))) pss_nil)
    (pss_cons (ps_if (PW.pt (pw_and (pt_cmpR op_lt (pv 3) (c_len (T.free "len" (by decide +kernel)) (pe_dget (hu_of hr) (pv 0) pe_str (fun _ _ => rfl))) (nomark _)) (pw_and1 (pt_cmpR op_ge (c_abs (T.free "abs" (by decide +kernel)) (pv 4)) (pe_op op_pow pe_int pe_int) (nomark _))))) (pss_cons (ps_dput (hu_of hr) (pv 0) pe_str (pe_op op_fdivW (pe_op op_sub (c_abs (T.free "abs" (by decide +kernel)) (pv 4)) (pe_op op_pow pe_int pe_int)) (pv 1)) rfl)
    (pss_one (ps_ret (pe_op op_mod (c_int (T.free "int" (by decide +kernel)) (pe_op op_sub (c_abs (T.free "abs" (by decide +kernel)) (pv 4)) (pe_op op_pow pe_int pe_int))) (pv 1))))) pss_nil)
    (pss_cons (ps_set (i := 5) nd rfl (Or.inl rfl) (pe_op op_mul (pe_op op_mod (c_int (T.free "int" (by decide +kernel)) (pv 4)) pe_int) pe_int))
    (pss_cons (ps_set (i := 5) nd rfl (Or.inl rfl) (pe_op op_mod (c_int (T.free "int" (by decide +kernel)) (pe_op op_add (pe_op op_add (pv 5) (pe_op op_mul (pv 3) (pe_op op_add (pe_op op_mul (pv 3) pe_int) pe_int))) pe_int)) pe_int))
    (pss_cons (ps_set (i := 5) nd rfl (Or.inl rfl) (pe_op op_mod (c_int (T.free "int" (by decide +kernel)) (pe_op op_mul (pv 5) (pe_op op_add (pv 5) pe_int))) pe_int))
    (pss_cons (ps_set (i := 5) nd rfl (Or.inl rfl) (pe_op op_mod (c_int (T.free "int" (by decide +kernel)) (pe_op op_add (pe_op op_add (pe_op op_mul (pv 5) (pv 5)) (pe_op op_mul pe_int (pv 5))) (pe_op op_mul pe_int (pv 3)))) pe_int))
    (pss_one (ps_ret (pe_op op_mod (c_int (T.free "int" (by decide +kernel)) (pe_op op_fdivW (pe_op op_mod (c_int (T.free "int" (by decide +kernel)) (pe_op op_mul (pv 5) (pe_op op_add (pv 5) pe_int))) pe_int) pe_int)) (pv 1))))))))))))))
theorem w_law_pick {P : Program} {w : World} {K : PySem.W.Frag} {mg : Str → Option Value} {base : Heap} (T : Txt P K mg)
    (G_law_draw : Good P w K mg base 2 (He.ga K "_law_draw") ["_law_pen_here", "_law_span"] (sp_law_draw K))
    {f : Addr} {cdv : Value} {A : Around} {outer : List Env} {s : Shared} {H : Hp} {E : XK} (hr : Room 3 (A.deeper (envOfC "_law_pick" (defScope s_law_pick) s.heap.objs.size f cdv))) :
    PSs (cxOf (L2.CX P w) P w K mg base n_law_pick "_law_pick" (defScope s_law_pick) f cdv A outer s H E) (defBody s_law_pick) (t_law_pick K) := by
  have nd := sc_law_pick.nd
  exact (pss_one (ps_ret (pe_ix ix_list (pv 1) (f_call T G_law_draw (hr.mono (by decide)) (T.glo "_law_draw" (by decide +kernel)) (pa_cons (pv 0) (pa_cons (c_len (T.free "len" (by decide +kernel)) (pv 1)) pa_nil))) (fun _ _ => rfl))))
theorem w_law_shuffled {P : Program} {w : World} {K : PySem.W.Frag} {mg : Str → Option Value} {base : Heap} (T : Txt P K mg)
    (G_law_draw : Good P w K mg base 2 (He.ga K "_law_draw") ["_law_pen_here", "_law_span"] (sp_law_draw K))
    {f : Addr} {cdv : Value} {A : Around} {outer : List Env} {s : Shared} {H : Hp} {E : XK} (hr : Room 3 (A.deeper (envOfC "_law_shuffled" (defScope s_law_shuffled) s.heap.objs.size f cdv))) :
    PSs (cxOf (L2.CX P w) P w K mg base n_law_shuffled "_law_shuffled" (defScope s_law_shuffled) f cdv A outer s H E) (defBody s_law_shuffled) (t_law_shuffled K) := by
  have nd := sc_law_shuffled.nd
  exact (pss_cons (ps_par (i := 2) (j := 3) (by rfl) nd rfl rfl (by decide) rfl rfl (pa_cons (c_list (T.free "list" (by decide +kernel)) (pv 1)) (pa_cons (pe_lst pa_nil) pa_nil)) (by rfl))
    (pss_cons (ps_while (passes_of rfl) (pt_cmpR (op_neD hr.units) (pv 2) (pe_lst pa_nil) (nomark _))
    (pss_one (ps_expr (l_append (pv 3) (pa_cons (l_pop (pv 2) (pa_cons (f_call T G_law_draw (hr.mono (by decide)) (T.glo "_law_draw" (by decide +kernel)) (pa_cons (pv 0) (pa_cons (c_len (T.free "len" (by decide +kernel)) (pv 2)) pa_nil))) pa_nil)) pa_nil)))))
    (pss_one (ps_ret (pv 3)))))
theorem w_law_nine {P : Program} {w : World} {K : PySem.W.Frag} {mg : Str → Option Value} {base : Heap} (T : Txt P K mg)
    {f : Addr} {cdv : Value} {A : Around} {outer : List Env} {s : Shared} {H : Hp} {E : XK} (hr : Room 1 (A.deeper (envOfC "_law_nine" (defScope s_law_nine) s.heap.objs.size f cdv))) :
    PSs (cxOf (L2.CX P w) P w K mg base n_law_nine "_law_nine" (defScope s_law_nine) f cdv A outer s H E) (defBody s_law_nine) (t_law_nine K) := by
  have nd := sc_law_nine.nd
  exact (pss_one (ps_ret (pe_lst (pa_cons pe_str (pa_cons pe_str (pa_cons pe_str (pa_cons pe_str (pa_cons pe_str (pa_cons pe_str (pa_cons pe_str (pa_cons pe_str (pa_cons pe_str pa_nil))))))))))))
theorem w_law_few {P : Program} {w : World} {K : PySem.W.Frag} {mg : Str → Option Value} {base : Heap} (T : Txt P K mg)
    (G_law_draw : Good P w K mg base 2 (He.ga K "_law_draw") ["_law_pen_here", "_law_span"] (sp_law_draw K))
    {f : Addr} {cdv : Value} {A : Around} {outer : List Env} {s : Shared} {H : Hp} {E : XK} (hr : Room 3 (A.deeper (envOfC "_law_few" (defScope s_law_few) s.heap.objs.size f cdv))) :
    PSs (cxOf (L2.CX P w) P w K mg base n_law_few "_law_few" (defScope s_law_few) f cdv A outer s H E) (defBody s_law_few) (t_law_few K) := by
  have nd := sc_law_few.nd
  exact (pss_cons (ps_par (i := 3) (j := 4) (by rfl) nd rfl rfl (by decide) rfl rfl (pa_cons (c_list (T.free "list" (by decide +kernel)) (pv 1)) (pa_cons (pe_lst pa_nil) pa_nil)) (by rfl))
    (pss_cons (ps_for (passes_of rfl) rfl (pi_range1 (by rfl) (T.free "range" (by decide +kernel)) (pa_cons (c_min (T.free "min" (by decide +kernel)) (c_int (T.free "int" (by decide +kernel)) (pv 2)) (c_len (T.free "len" (by decide +kernel)) (pv 3))) pa_nil)) (pg_name (i := 5) nd rfl (Or.inl rfl))
    (pss_one (ps_expr (l_append (pv 4) (pa_cons (l_pop (pv 3) (pa_cons (f_call T G_law_draw (hr.mono (by decide)) (T.glo "_law_draw" (by decide +kernel)) (pa_cons (pv 0) (pa_cons (c_len (T.free "len" (by decide +kernel)) (pv 3)) pa_nil))) pa_nil)) pa_nil)))))
    (pss_one (ps_ret (pv 4)))))
theorem w_law_from_left {P : Program} {w : World} {K : PySem.W.Frag} {mg : Str → Option Value} {base : Heap} (T : Txt P K mg)
    {f : Addr} {cdv : Value} {A : Around} {outer : List Env} {s : Shared} {H : Hp} {E : XK} (hr : Room 1 (A.deeper (envOfC "_law_from_left" (defScope s_law_from_left) s.heap.objs.size f cdv))) :
    PSs (cxOf (L2.CX P w) P w K mg base n_law_from_left "_law_from_left" (defScope s_law_from_left) f cdv A outer s H E) (defBody s_law_from_left) (t_law_from_left K) := by
  have nd := sc_law_from_left.nd
  exact (pss_cons (ps_set (i := 2) nd rfl (Or.inl rfl) (pe_ix ix_list (pv 1) pe_int (fun _ _ => rfl)))
    (pss_cons (ps_for (passes_of rfl) rfl (pi_list (pe_slice sl_list (pv 1) (po_some pe_int) po_none)) (pg_name (i := 3) nd rfl (Or.inl rfl))
    (pss_one (ps_set (i := 2) nd rfl (Or.inl rfl) (pe_ix ix_list (pe_ix ix_list (pv 0) (pv 2) (fun _ _ => rfl)) (pv 3) (fun _ _ => rfl)))))
    (pss_one (ps_ret (pv 2)))))
theorem w_law_equal_sides {P : Program} {w : World} {K : PySem.W.Frag} {mg : Str → Option Value} {base : Heap} (T : Txt P K mg)
    {f : Addr} {cdv : Value} {A : Around} {outer : List Env} {s : Shared} {H : Hp} {E : XK} (hr : Room 1 (A.deeper (envOfC "_law_equal_sides" (defScope s_law_equal_sides) s.heap.objs.size f cdv))) :
    PSs (cxOf (L2.CX P w) P w K mg base n_law_equal_sides "_law_equal_sides" (defScope s_law_equal_sides) f cdv A outer s H E) (defBody s_law_equal_sides) (t_law_equal_sides K) := by
  have nd := sc_law_equal_sides.nd
  exact (pss_cons (ps_if (pt_cmpR op_eq (pv 0) pe_str (nomark _)) (pss_one (ps_ret (pe_lst (pa_cons (pe_tup (pa_cons (pe_lst (pa_cons (pv 1) (pa_cons (pv 2) pa_nil))) (pa_cons (pe_lst (pa_cons (pv 2) (pa_cons (pv 1) pa_nil))) pa_nil))) pa_nil)))) pss_nil)
    (pss_cons (ps_if (PW.pt (pw_or (pt_cmpR op_eq (pv 0) pe_str (nomark _)) (pw_or1 (pt_cmpR op_eq (pv 0) pe_str (nomark _))))) (pss_one (ps_ret (pe_lst (pa_cons (pe_tup (pa_cons (pe_lst (pa_cons (pv 1) (pa_cons (pv 2) pa_nil))) (pa_cons (pe_lst (pa_cons (pe_ifExp (pt_cmpR op_eq (pv 0) pe_str (nomark _)) (pv 1) (pv 2)) pa_nil)) pa_nil))) pa_nil)))) pss_nil)
    (pss_cons (ps_if (pt_cmpR op_eq (pv 0) pe_str (nomark _)) (pss_one (ps_ret (pe_lst (pa_cons (pe_tup (pa_cons (pe_lst (pa_cons (pv 1) (pa_cons (pv 1) (pa_cons (pv 2) pa_nil)))) (pa_cons (pe_lst (pa_cons (pv 2) pa_nil)) pa_nil))) (pa_cons (pe_tup (pa_cons (pe_lst (pa_cons (pv 2) (pa_cons (pv 1) (pa_cons (pv 1) pa_nil)))) (pa_cons (pe_lst (pa_cons (pv 2) pa_nil)) pa_nil))) pa_nil))))) pss_nil)
    (pss_cons (ps_if (pt_cmpR op_eq (pv 0) pe_str (nomark _)) (pss_one (ps_ret (pe_lst pa_nil))) pss_nil)
    (pss_cons (ps_set (i := 4) nd rfl (Or.inl rfl) (pe_disp (pps_cons pe_str (pe_tup (pa_cons (pe_lst (pa_cons (pv 1) (pa_cons (pv 2) (pa_cons (pv 1) (pa_cons (pv 3) (pa_cons (pv 1) pa_nil)))))) (pa_cons (pe_lst (pa_cons (pv 1) (pa_cons (pv 2) (pa_cons (pv 3) (pa_cons (pv 1) pa_nil))))) pa_nil))) (pps_cons pe_str (pe_tup (pa_cons (pe_lst (pa_cons (pv 1) (pa_cons (pv 2) (pa_cons (pv 1) pa_nil)))) (pa_cons (pe_lst (pa_cons (pv 1) (pa_cons (pv 2) pa_nil))) pa_nil))) (pps_cons pe_str (pe_tup (pa_cons (pe_lst (pa_cons (pv 1) (pa_cons (pv 2) (pa_cons (pv 1) pa_nil)))) (pa_cons (pe_lst (pa_cons (pv 2) (pa_cons (pv 1) pa_nil))) pa_nil))) pps_nil))) (by rfl) (by rfl) (fun z => by cases z) (by decide)))
    (pss_one (ps_ret (pe_lst (pa_cons (pe_tup (pa_cons (pe_lst (pa_cons (pv 1) (pa_cons (pv 1) pa_nil))) (pa_cons (pe_lst (pa_cons (pv 1) pa_nil)) pa_nil))) (pa_cons (pe_dget2 (hu_of hr) (pv 4) (pv 0) (pe_tup (pa_cons (pe_lst (pa_cons (pv 1) (pa_cons (pv 2) (pa_cons (pv 3) pa_nil)))) (pa_cons (pe_lst (pa_cons (pv 1) (pa_cons (pv 3) pa_nil))) pa_nil))) ⟨rfl, rfl, rfl, rfl⟩) pa_nil))))))))))
theorem w_law_triple_holds {P : Program} {w : World} {K : PySem.W.Frag} {mg : Str → Option Value} {base : Heap} (T : Txt P K mg)
    (G_law_equal_sides : Good P w K mg base 2 (He.ga K "_law_equal_sides") ["_law_rule", "_law_x", "_law_y", "_law_z"] (sp_law_equal_sides K))
    (G_law_from_left : Good P w K mg base 2 (He.ga K "_law_from_left") ["_law_rows", "_law_some"] (sp_law_from_left K))
    {f : Addr} {cdv : Value} {A : Around} {outer : List Env} {s : Shared} {H : Hp} {E : XK} (hr : Room 3 (A.deeper (envOfC "_law_triple_holds" (defScope s_law_triple_holds) s.heap.objs.size f cdv))) :
    PSs (cxOf (L2.CX P w) P w K mg base n_law_triple_holds "_law_triple_holds" (defScope s_law_triple_holds) f cdv A outer s H E) (defBody s_law_triple_holds) (t_law_triple_holds K) := by
  have nd := sc_law_triple_holds.nd
  exact (pss_cons (ps_if (PW.pt (pw_and (pt_cmpR op_notIn_seq (pv 1) (pe_tup (pa_cons pe_str (pa_cons pe_str (pa_cons pe_str pa_nil)))) (by rfl)) (pw_and1 (pt_cmpR op_ne (pe_ix ix_list (pe_ix ix_list (pv 0) (pe_ix ix_list (pe_ix ix_list (pv 0) (pv 2) (fun _ _ => rfl)) (pv 3) (fun _ _ => rfl)) (fun _ _ => rfl)) (pv 4) (fun _ _ => rfl)) (pe_ix ix_list (pe_ix ix_list (pv 0) (pv 2) (fun _ _ => rfl)) (pe_ix ix_list (pe_ix ix_list (pv 0) (pv 3) (fun _ _ => rfl)) (pv 4) (fun _ _ => rfl)) (fun _ _ => rfl)) (nomark _))))) (pss_one (ps_ret pe_bl)) pss_nil)
    (pss_cons (ps_for (passes_of rfl) rfl (pi_list (f_call T G_law_equal_sides (hr.mono (by decide)) (T.glo "_law_equal_sides" (by decide +kernel)) (pa_cons (pv 1) (pa_cons (pv 2) (pa_cons (pv 3) (pa_cons (pv 4) pa_nil)))))) (pg_tup rfl (pgs_cons (pg_name (i := 5) nd rfl (Or.inl rfl)) (pgs_cons (pg_name (i := 6) nd rfl (Or.inl rfl)) pgs_nil)))
    (pss_one (ps_if (pt_cmpR op_ne (f_call T G_law_from_left (hr.mono (by decide)) (T.glo "_law_from_left" (by decide +kernel)) (pa_cons (pv 0) (pa_cons (pv 5) pa_nil))) (f_call T G_law_from_left (hr.mono (by decide)) (T.glo "_law_from_left" (by decide +kernel)) (pa_cons (pv 0) (pa_cons (pv 6) pa_nil))) (nomark _)) (pss_one (ps_ret pe_bl)) pss_nil)))
    (pss_one (ps_ret pe_bl))))
theorem w_law_first_break {P : Program} {w : World} {K : PySem.W.Frag} {mg : Str → Option Value} {base : Heap} (T : Txt P K mg)
    (G_law_triple_holds : Good P w K mg base 4 (He.ga K "_law_triple_holds") ["_law_rows", "_law_rule", "_law_x", "_law_y", "_law_z"] (sp_law_triple_holds K))
    {f : Addr} {cdv : Value} {A : Around} {outer : List Env} {s : Shared} {H : Hp} {E : XK} (hr : Room 5 (A.deeper (envOfC "_law_first_break" (defScope s_law_first_break) s.heap.objs.size f cdv))) :
    PSs (cxOf (L2.CX P w) P w K mg base n_law_first_break "_law_first_break" (defScope s_law_first_break) f cdv A outer s H E) (defBody s_law_first_break) (t_law_first_break K) := by
  have nd := sc_law_first_break.nd
  exact (pss_cons (ps_for (passes_of rfl) rfl (pi_range1 (by rfl) (T.free "range" (by decide +kernel)) (pa_cons (c_len (T.free "len" (by decide +kernel)) (pv 0)) pa_nil)) (pg_name (i := 2) nd rfl (Or.inl rfl))
    (pss_one (ps_for (passes_of rfl) rfl (pi_range1 (by rfl) (T.free "range" (by decide +kernel)) (pa_cons (c_len (T.free "len" (by decide +kernel)) (pv 0)) pa_nil)) (pg_name (i := 3) nd rfl (Or.inl rfl))
    (pss_one (ps_for (passes_of rfl) rfl (pi_range1 (by rfl) (T.free "range" (by decide +kernel)) (pa_cons (c_len (T.free "len" (by decide +kernel)) (pv 0)) pa_nil)) (pg_name (i := 4) nd rfl (Or.inl rfl))
    (pss_one (ps_if (pt_not (pt_val (f_call T G_law_triple_holds (hr.mono (by decide)) (T.glo "_law_triple_holds" (by decide +kernel)) (pa_cons (pv 0) (pa_cons (pv 1) (pa_cons (pv 2) (pa_cons (pv 3) (pa_cons (pv 4) pa_nil)))))))) (pss_one (ps_ret (pe_tup (pa_cons (pv 2) (pa_cons (pv 3) (pa_cons (pv 4) pa_nil)))))) pss_nil)))))))
    (pss_one (ps_ret pe_non)))
theorem w_law_rules_kept {P : Program} {w : World} {K : PySem.W.Frag} {mg : Str → Option Value} {base : Heap} (T : Txt P K mg)
    (G_law_nine : Good P w K mg base 2 (He.ga K "_law_nine") [] (sp_law_nine K))
    (G_law_first_break : Good P w K mg base 6 (He.ga K "_law_first_break") ["_law_rows", "_law_rule"] (sp_law_first_break K))
    {f : Addr} {cdv : Value} {A : Around} {outer : List Env} {s : Shared} {H : Hp} {E : XK} (hr : Room 7 (A.deeper (envOfC "_law_rules_kept" (defScope s_law_rules_kept) s.heap.objs.size f cdv))) :
    PSs (cxOf (L2.CX P w) P w K mg base n_law_rules_kept "_law_rules_kept" (defScope s_law_rules_kept) f cdv A outer s H E) (defBody s_law_rules_kept) (t_law_rules_kept K) := by
  have nd := sc_law_rules_kept.nd
  exact (pss_one (ps_ret (pe_lc (own := [("_law_rule", 1)]) (g := (gName 1)) (tt := (tTest (tOp rIsNK (tCall (sp_law_first_break K) [] E0 (tCons (tVar 0) (tCons (tVar 1) tNil))) (tC .non)))) rfl nd (pi_list (f_call0 T G_law_nine (hr.mono (by decide)) (T.glo "_law_nine" (by decide +kernel)))) (blkOk_by (by kernel_rfl)) (fun _ _ _ _ _ => pg_name (i := 1) nd rfl (by first | exact Or.inl rfl | exact Or.inr rfl)) (fun _ _ _ _ _ => pts_one (pt_cmpR op_isN (f_call T G_law_first_break (hr.mono (by decide)) (T.glo "_law_first_break" (by decide +kernel)) (pa_cons (pv 0) (pa_cons (pv 1) pa_nil))) pe_non (nomark _))) (fun _ _ _ _ _ => (pv 1)))))
theorem w_law_shortened {P : Program} {w : World} {K : PySem.W.Frag} {mg : Str → Option Value} {base : Heap} (T : Txt P K mg)
    {f : Addr} {cdv : Value} {A : Around} {outer : List Env} {s : Shared} {H : Hp} {E : XK} (hr : Room 1 (A.deeper (envOfC "_law_shortened" (defScope s_law_shortened) s.heap.objs.size f cdv))) :
    PSs (cxOf (L2.CX P w) P w K mg base n_law_shortened "_law_shortened" (defScope s_law_shortened) f cdv A outer s H E) (defBody s_law_shortened) (t_law_shortened K) := by
  have nd := sc_law_shortened.nd
  exact (pss_cons (ps_set (i := 2) nd rfl (Or.inl rfl) pe_str)
    (pss_cons (ps_set (i := 3) nd rfl (Or.inl rfl) (pe_ifExp (pt_cmpR op_eq (pv 1) pe_int (nomark _)) (pv 0) (pe_revS (pv 0))))
    (pss_cons (ps_for (passes_of rfl) rfl (pi_str (pv 3)) (pg_name (i := 4) nd rfl (Or.inl rfl))
    (pss_one (ps_set (i := 2) nd rfl (Or.inl rfl) (pe_op op_add_str (pv 2) (pe_op op_mul_txt (pv 4) (c_int (T.free "int" (by decide +kernel)) (pe_cmpR op_notIn_sign (pv 4) (pv 2) (by rfl))))))))
    (pss_one (ps_ret (pe_ifExp (pt_cmpR op_eq (pv 1) pe_int (nomark _)) (pv 2) (pe_revS (pv 2))))))))
theorem w_law_word_rows {P : Program} {w : World} {K : PySem.W.Frag} {mg : Str → Option Value} {base : Heap} (T : Txt P K mg)
    (G_law_shortened : Good P w K mg base 2 (He.ga K "_law_shortened") ["_law_word", "_law_way"] (sp_law_shortened K))
    {f : Addr} {cdv : Value} {A : Around} {outer : List Env} {s : Shared} {H : Hp} {E : XK} (hr : Room 3 (A.deeper (envOfC "_law_word_rows" (defScope s_law_word_rows) s.heap.objs.size f cdv))) :
    PSs (cxOf (L2.CX P w) P w K mg base n_law_word_rows "_law_word_rows" (defScope s_law_word_rows) f cdv A outer s H E) (defBody s_law_word_rows) (t_law_word_rows K) := by
  have nd := sc_law_word_rows.nd
  exact (pss_cons (ps_asg (pe_tup (pa_cons (pe_lc (own := [("_law_word", 5)]) (g := (gName 5)) (tt := tYes) rfl nd (pi_list (pv 0)) (blkOk_by (by kernel_rfl)) (fun _ _ _ _ _ => pg_name (i := 5) nd rfl (by first | exact Or.inl rfl | exact Or.inr rfl)) (fun _ _ _ _ _ => pts_nil) (fun _ _ _ _ _ => (pe_lc (own := [("_law_way", 6)]) (g := (gName 6)) (tt := tYes) rfl nd (pi_list (pv 1)) (blkOk_by (by kernel_rfl)) (fun _ _ _ _ _ => pg_name (i := 6) nd rfl (by first | exact Or.inl rfl | exact Or.inr rfl)) (fun _ _ _ _ _ => pts_nil) (fun _ _ _ _ _ => (f_call T G_law_shortened (hr.mono (by decide)) (T.glo "_law_shortened" (by decide +kernel)) (pa_cons (pv 5) (pa_cons (pv 6) pa_nil))))))) (pa_cons (pe_lst pa_nil) pa_nil))) (pg_tup rfl (pgs_cons (pg_name (i := 2) nd rfl (Or.inr rfl)) (pgs_cons (pg_name (i := 3) nd rfl (Or.inl rfl)) pgs_nil))))
    (pss_cons (ps_for (passes_of rfl) rfl (pi_list (pv 0)) (pg_name (i := 4) nd rfl (Or.inr rfl))
    (pss_one (ps_expr (l_append (pv 3) (pa_cons (pe_lc (own := [("_law_two", 7)]) (g := (gName 7)) (tt := tYes) rfl nd (pi_list (pv 0)) (blkOk_by (by kernel_rfl)) (fun _ _ _ _ _ => pg_name (i := 7) nd rfl (by first | exact Or.inl rfl | exact Or.inr rfl)) (fun _ _ _ _ _ => pts_nil) (fun _ _ _ _ _ => (l_index (un65 hr) (pv 2) (pa_cons (pe_lc (own := [("_law_way", 6)]) (g := (gName 6)) (tt := tYes) rfl nd (pi_list (pv 1)) (blkOk_by (by kernel_rfl)) (fun _ _ _ _ _ => pg_name (i := 6) nd rfl (by first | exact Or.inl rfl | exact Or.inr rfl)) (fun _ _ _ _ _ => pts_nil) (fun _ _ _ _ _ => (f_call T G_law_shortened (hr.mono (by decide)) (T.glo "_law_shortened" (by decide +kernel)) (pa_cons (pe_op op_add_str (pv 4) (pv 7)) (pa_cons (pv 6) pa_nil))))) pa_nil)))) pa_nil)))))
    (pss_one (ps_ret (pv 3)))))
theorem w_law_base_rows {P : Program} {w : World} {K : PySem.W.Frag} {mg : Str → Option Value} {base : Heap} (T : Txt P K mg)
    (G_law_draw : Good P w K mg base 2 (He.ga K "_law_draw") ["_law_pen_here", "_law_span"] (sp_law_draw K))
    (G_law_word_rows : Good P w K mg base 4 (He.ga K "_law_word_rows") ["_law_words", "_law_ways"] (sp_law_word_rows K))
    {f : Addr} {cdv : Value} {A : Around} {outer : List Env} {s : Shared} {H : Hp} {E : XK} (hr : Room 5 (A.deeper (envOfC "_law_base_rows" (defScope s_law_base_rows) s.heap.objs.size f cdv))) :
    PSs (cxOf (L2.CX P w) P w K mg base n_law_base_rows "_law_base_rows" (defScope s_law_base_rows) f cdv A outer s H E) (defBody s_law_base_rows) (t_law_base_rows K) := by
  have nd := sc_law_base_rows.nd
  exact (pss_cons (ps_asg (pe_tup (pa_cons (f_call T G_law_draw (hr.mono (by decide)) (T.glo "_law_draw" (by decide +kernel)) (pa_cons (pv 0) (pa_cons pe_int pa_nil))) (pa_cons (pe_op op_add pe_int (f_call T G_law_draw (hr.mono (by decide)) (T.glo "_law_draw" (by decide +kernel)) (pa_cons (pv 0) (pa_cons pe_int pa_nil)))) pa_nil))) (pg_tup rfl (pgs_cons (pg_name (i := 1) nd rfl (Or.inr rfl)) (pgs_cons (pg_name (i := 2) nd rfl (Or.inr rfl)) pgs_nil))))
    (pss_cons (ps_set (i := 3) nd rfl (Or.inr rfl) (pe_listRg rfl (by rfl) (T.free "list" (by decide +kernel)) (prg_1 (by rfl) (T.free "range" (by decide +kernel)) (pv 2))))
    (pss_cons (ps_if (pt_cmpR op_lt (pv 1) pe_int (nomark _)) (pss_one (ps_ret (pe_lc (own := [("_law_a", 6)]) (g := (gName 6)) (tt := tYes) rfl nd (pi_list (pv 3)) (blkOk_by (by kernel_rfl)) (fun _ _ _ _ _ => pg_name (i := 6) nd rfl (by first | exact Or.inl rfl | exact Or.inr rfl)) (fun _ _ _ _ _ => pts_nil) (fun _ _ _ _ _ => (pe_lc (own := [("_law_b", 7)]) (g := (gName 7)) (tt := tYes) rfl nd (pi_list (pv 3)) (blkOk_by (by kernel_rfl)) (fun _ _ _ _ _ => pg_name (i := 7) nd rfl (by first | exact Or.inl rfl | exact Or.inr rfl)) (fun _ _ _ _ _ => pts_nil) (fun _ _ _ _ _ => (f_call T G_law_draw (hr.mono (by decide)) (T.glo "_law_draw" (by decide +kernel)) (pa_cons (pv 0) (pa_cons (pv 2) pa_nil))))))))) pss_nil)
    (pss_cons (ps_if (pt_cmpR op_eq (pv 1) pe_int (nomark _)) (pss_cons (ps_set (i := 4) nd rfl (Or.inr rfl) (pe_lc (own := [("_law_a", 6)]) (g := (gName 6)) (tt := tYes) rfl nd (pi_list (pv 3)) (blkOk_by (by kernel_rfl)) (fun _ _ _ _ _ => pg_name (i := 6) nd rfl (by first | exact Or.inl rfl | exact Or.inr rfl)) (fun _ _ _ _ _ => pts_nil) (fun _ _ _ _ _ => (pe_lc (own := [("_law_b", 7)]) (g := (gName 7)) (tt := tYes) rfl nd (pi_list (pv 3)) (blkOk_by (by kernel_rfl)) (fun _ _ _ _ _ => pg_name (i := 7) nd rfl (by first | exact Or.inl rfl | exact Or.inr rfl)) (fun _ _ _ _ _ => pts_nil) (fun _ _ _ _ _ => (f_call T G_law_draw (hr.mono (by decide)) (T.glo "_law_draw" (by decide +kernel)) (pa_cons (pv 0) (pa_cons (pv 2) pa_nil))))))))
    (pss_one (ps_ret (pe_lc (own := [("_law_a", 6)]) (g := (gName 6)) (tt := tYes) rfl nd (pi_list (pv 3)) (blkOk_by (by kernel_rfl)) (fun _ _ _ _ _ => pg_name (i := 6) nd rfl (by first | exact Or.inl rfl | exact Or.inr rfl)) (fun _ _ _ _ _ => pts_nil) (fun _ _ _ _ _ => (pe_lc (own := [("_law_b", 7)]) (g := (gName 7)) (tt := tYes) rfl nd (pi_list (pv 3)) (blkOk_by (by kernel_rfl)) (fun _ _ _ _ _ => pg_name (i := 7) nd rfl (by first | exact Or.inl rfl | exact Or.inr rfl)) (fun _ _ _ _ _ => pts_nil) (fun _ _ _ _ _ => (pe_ix ix_list (pe_ix ix_list (pv 4) (c_min (T.free "min" (by decide +kernel)) (c_int (T.free "int" (by decide +kernel)) (pv 6)) (c_int (T.free "int" (by decide +kernel)) (pv 7))) (fun _ _ => rfl)) (c_max (T.free "max" (by decide +kernel)) (c_int (T.free "int" (by decide +kernel)) (pv 6)) (c_int (T.free "int" (by decide +kernel)) (pv 7))) (fun _ _ => rfl))))))))) pss_nil)
    (pss_cons (ps_if (pt_cmpR op_eq (pv 1) pe_int (nomark _)) (pss_one (ps_ret (pe_lc (own := [("_law_a", 6)]) (g := (gName 6)) (tt := tYes) rfl nd (pi_list (pv 3)) (blkOk_by (by kernel_rfl)) (fun _ _ _ _ _ => pg_name (i := 6) nd rfl (by first | exact Or.inl rfl | exact Or.inr rfl)) (fun _ _ _ _ _ => pts_nil) (fun _ _ _ _ _ => (pe_lc (own := [("_law_b", 7)]) (g := (gName 7)) (tt := tYes) rfl nd (pi_list (pv 3)) (blkOk_by (by kernel_rfl)) (fun _ _ _ _ _ => pg_name (i := 7) nd rfl (by first | exact Or.inl rfl | exact Or.inr rfl)) (fun _ _ _ _ _ => pts_nil) (fun _ _ _ _ _ => (pe_op op_mod (c_int (T.free "int" (by decide +kernel)) (pe_op op_add (pv 6) (pv 7))) (pv 2)))))))) pss_nil)
    (pss_cons (ps_if (pt_cmpR op_eq (pv 1) pe_int (nomark _)) (pss_one (ps_ret (pe_lc (own := [("_law_a", 6)]) (g := (gName 6)) (tt := tYes) rfl nd (pi_list (pv 3)) (blkOk_by (by kernel_rfl)) (fun _ _ _ _ _ => pg_name (i := 6) nd rfl (by first | exact Or.inl rfl | exact Or.inr rfl)) (fun _ _ _ _ _ => pts_nil) (fun _ _ _ _ _ => (pe_lc (own := [("_law_b", 7)]) (g := (gName 7)) (tt := tYes) rfl nd (pi_list (pv 3)) (blkOk_by (by kernel_rfl)) (fun _ _ _ _ _ => pg_name (i := 7) nd rfl (by first | exact Or.inl rfl | exact Or.inr rfl)) (fun _ _ _ _ _ => pts_nil) (fun _ _ _ _ _ => (c_min (T.free "min" (by decide +kernel)) (c_int (T.free "int" (by decide +kernel)) (pv 6)) (c_int (T.free "int" (by decide +kernel)) (pv 7))))))))) pss_nil)
    (pss_cons (ps_if (pt_cmpR op_eq (pv 1) pe_int (nomark _)) (pss_one (ps_ret (pe_lc (own := [("_law_a", 6)]) (g := (gName 6)) (tt := tYes) rfl nd (pi_list (pv 3)) (blkOk_by (by kernel_rfl)) (fun _ _ _ _ _ => pg_name (i := 6) nd rfl (by first | exact Or.inl rfl | exact Or.inr rfl)) (fun _ _ _ _ _ => pts_nil) (fun _ _ _ _ _ => (pe_lc (own := [("_law_b", 7)]) (g := (gName 7)) (tt := tYes) rfl nd (pi_list (pv 3)) (blkOk_by (by kernel_rfl)) (fun _ _ _ _ _ => pg_name (i := 7) nd rfl (by first | exact Or.inl rfl | exact Or.inr rfl)) (fun _ _ _ _ _ => pts_nil) (fun _ _ _ _ _ => (c_min (T.free "min" (by decide +kernel)) (c_int (T.free "int" (by decide +kernel)) (pe_op op_add (pv 6) (pv 7))) (pe_op op_sub (pv 2) pe_int)))))))) pss_nil)
    (pss_cons (ps_if (pt_cmpR op_lt (pv 1) pe_int (nomark _)) (pss_one (ps_ret (pe_lc (own := [("_law_a", 6)]) (g := (gName 6)) (tt := tYes) rfl nd (pi_list (pv 3)) (blkOk_by (by kernel_rfl)) (fun _ _ _ _ _ => pg_name (i := 6) nd rfl (by first | exact Or.inl rfl | exact Or.inr rfl)) (fun _ _ _ _ _ => pts_nil) (fun _ _ _ _ _ => (pe_lc (own := [("_law_b", 7)]) (g := (gName 7)) (tt := tYes) rfl nd (pi_list (pv 3)) (blkOk_by (by kernel_rfl)) (fun _ _ _ _ _ => pg_name (i := 7) nd rfl (by first | exact Or.inl rfl | exact Or.inr rfl)) (fun _ _ _ _ _ => pts_nil) (fun _ _ _ _ _ => (pe_ifExp (pt_cmpR op_eq (pv 1) pe_int (nomark _)) (pv 6) (pv 7)))))))) pss_nil)
    (pss_cons (ps_if (pt_cmpR op_eq (pv 1) pe_int (nomark _)) (pss_one (ps_ret (pe_op op_rep (pe_lst (pa_cons (pe_op op_rep (pe_lst (pa_cons (f_call T G_law_draw (hr.mono (by decide)) (T.glo "_law_draw" (by decide +kernel)) (pa_cons (pv 0) (pa_cons (pv 2) pa_nil))) pa_nil)) (pv 2)) pa_nil)) (pv 2)))) pss_nil)
    (pss_cons (ps_if (pt_cmpR op_eq (pv 1) pe_int (nomark _)) (pss_one (ps_ret (pe_lst (pa_cons (pe_lst (pa_cons pe_int (pa_cons pe_int (pa_cons pe_int (pa_cons pe_int pa_nil))))) (pa_cons (pe_lst (pa_cons pe_int (pa_cons pe_int (pa_cons pe_int (pa_cons pe_int pa_nil))))) (pa_cons (pe_lst (pa_cons pe_int (pa_cons pe_int (pa_cons pe_int (pa_cons pe_int pa_nil))))) (pa_cons (pe_lst (pa_cons pe_int (pa_cons pe_int (pa_cons pe_int (pa_cons pe_int pa_nil))))) pa_nil))))))) pss_nil)
    (pss_cons (ps_if (pt_cmpR op_eq (pv 1) pe_int (nomark _)) (pss_one (ps_ret (pe_lc (own := [("_law_a", 6)]) (g := (gName 6)) (tt := tYes) rfl nd (pi_range1 (by rfl) (T.free "range" (by decide +kernel)) (pa_cons pe_int pa_nil)) (blkOk_by (by kernel_rfl)) (fun _ _ _ _ _ => pg_name (i := 6) nd rfl (by first | exact Or.inl rfl | exact Or.inr rfl)) (fun _ _ _ _ _ => pts_nil) (fun _ _ _ _ _ => (pe_lc (own := [("_law_b", 7)]) (g := (gName 7)) (tt := tYes) rfl nd (pi_range1 (by rfl) (T.free "range" (by decide +kernel)) (pa_cons pe_int pa_nil)) (blkOk_by (by kernel_rfl)) (fun _ _ _ _ _ => pg_name (i := 7) nd rfl (by first | exact Or.inl rfl | exact Or.inr rfl)) (fun _ _ _ _ _ => pts_nil) (fun _ _ _ _ _ => (pe_op op_add (pe_op op_mul (pe_op op_fdivW (pv 6) pe_int) pe_int) (pe_op op_mod (c_int (T.free "int" (by decide +kernel)) (pv 7)) pe_int)))))))) pss_nil)
    (pss_cons (ps_if (pt_cmpR op_eq (pv 1) pe_int (nomark _)) (pss_one (ps_ret (pe_lst (pa_cons (pe_lst (pa_cons pe_int (pa_cons pe_int (pa_cons pe_int (pa_cons pe_int pa_nil))))) (pa_cons (pe_lst (pa_cons pe_int (pa_cons pe_int (pa_cons pe_int (pa_cons pe_int pa_nil))))) (pa_cons (pe_lst (pa_cons pe_int (pa_cons pe_int (pa_cons pe_int (pa_cons pe_int pa_nil))))) (pa_cons (pe_lst (pa_cons pe_int (pa_cons pe_int (pa_cons pe_int (pa_cons pe_int pa_nil))))) pa_nil))))))) pss_nil)
    (pss_cons (ps_if (pt_cmpR op_eq (pv 1) pe_int (nomark _)) (pss_one (ps_ret (pe_lst (pa_cons (pe_lst (pa_cons pe_int (pa_cons pe_int (pa_cons pe_int (pa_cons pe_int (pa_cons pe_int pa_nil)))))) (pa_cons (pe_lst (pa_cons pe_int (pa_cons pe_int (pa_cons pe_int (pa_cons pe_int (pa_cons pe_int pa_nil)))))) (pa_cons (pe_lst (pa_cons pe_int (pa_cons pe_int (pa_cons pe_int (pa_cons pe_int (pa_cons pe_int pa_nil)))))) (pa_cons (pe_lst (pa_cons pe_int (pa_cons pe_int (pa_cons pe_int (pa_cons pe_int (pa_cons pe_int pa_nil)))))) (pa_cons (pe_lst (pa_cons pe_int (pa_cons pe_int (pa_cons pe_int (pa_cons pe_int (pa_cons pe_int pa_nil)))))) pa_nil)))))))) pss_nil)
    (pss_cons (ps_set (i := 5) nd rfl (Or.inl rfl) (pe_lst (pa_cons pe_str (pa_cons pe_str (pa_cons pe_str (pa_cons pe_str (pa_cons pe_str pa_nil)))))))
    (pss_cons (ps_if (pt_cmpR op_lt (pv 1) pe_int (nomark _)) (pss_one (ps_ret (f_call T G_law_word_rows (hr.mono (by decide)) (T.glo "_law_word_rows" (by decide +kernel)) (pa_cons (pv 5) (pa_cons (pe_lst (pa_cons (pe_op op_sub (pv 1) pe_int) pa_nil)) pa_nil))))) pss_nil)
    (pss_one (ps_ret (pe_ifExp (pt_cmpR op_eq (pv 1) pe_int (nomark _)) (f_call T G_law_word_rows (hr.mono (by decide)) (T.glo "_law_word_rows" (by decide +kernel)) (pa_cons (pe_op op_cat (pv 5) (pe_lst (pa_cons pe_str (pa_cons pe_str pa_nil)))) (pa_cons (pe_lst (pa_cons pe_int (pa_cons pe_int pa_nil))) pa_nil))) (f_call T G_law_word_rows (hr.mono (by decide)) (T.glo "_law_word_rows" (by decide +kernel)) (pa_cons (pe_lst (pa_cons pe_str (pa_cons pe_str pa_nil))) (pa_cons (pe_lst (pa_cons pe_int pa_nil)) pa_nil)))))))))))))))))))))
theorem w_law_twisted_rows {P : Program} {w : World} {K : PySem.W.Frag} {mg : Str → Option Value} {base : Heap} (T : Txt P K mg)
    (G_law_shuffled : Good P w K mg base 4 (He.ga K "_law_shuffled") ["_law_pen_here", "_law_items"] (sp_law_shuffled K))
    {f : Addr} {cdv : Value} {A : Around} {outer : List Env} {s : Shared} {H : Hp} {E : XK} (hr : Room 5 (A.deeper (envOfC "_law_twisted_rows" (defScope s_law_twisted_rows) s.heap.objs.size f cdv))) :
    PSs (cxOf (L2.CX P w) P w K mg base n_law_twisted_rows "_law_twisted_rows" (defScope s_law_twisted_rows) f cdv A outer s H E) (defBody s_law_twisted_rows) (t_law_twisted_rows K) := by
  have nd := sc_law_twisted_rows.nd
  exact (pss_cons (ps_set (i := 2) nd rfl (Or.inr rfl) (f_call T G_law_shuffled (hr.mono (by decide)) (T.glo "_law_shuffled" (by decide +kernel)) (pa_cons (pv 0) (pa_cons (pe_listRg rfl (by rfl) (T.free "list" (by decide +kernel)) (prg_1 (by rfl) (T.free "range" (by decide +kernel)) (c_len (T.free "len" (by decide +kernel)) (pv 1)))) pa_nil))))
    (pss_cons (ps_setLc (i := 3) (own := [("_law_a", 5)]) (g := (gName 5)) (tt := tYes) rfl nd rfl rfl (sw_true rfl rfl rfl (by decide +kernel)) (pi_list (pv 2)) (blkOk_by (by kernel_rfl)) (fun _ _ _ _ _ => pg_name (i := 5) nd rfl (by first | exact Or.inl rfl | exact Or.inr rfl)) (fun _ _ _ _ _ => pts_nil) (fun _ _ _ _ _ => (pe_lc (own := [("_law_b", 6)]) (g := (gName 6)) (tt := tYes) rfl nd (pi_list (pv 2)) (blkOk_by (by kernel_rfl)) (fun _ _ _ _ _ => pg_name (i := 6) nd rfl (by first | exact Or.inl rfl | exact Or.inr rfl)) (fun _ _ _ _ _ => pts_nil) (fun _ _ _ _ _ => pe_int))))
    (pss_cons (ps_for (passes_of rfl) rfl (pi_range1 (by rfl) (T.free "range" (by decide +kernel)) (pa_cons (c_len (T.free "len" (by decide +kernel)) (pv 1)) pa_nil)) (pg_name (i := 5) nd rfl (Or.inl rfl))
    (pss_one (ps_for (passes_of rfl) rfl (pi_range1 (by rfl) (T.free "range" (by decide +kernel)) (pa_cons (c_len (T.free "len" (by decide +kernel)) (pv 1)) pa_nil)) (pg_name (i := 6) nd rfl (Or.inl rfl))
    (pss_cons (ps_set (i := 4) nd rfl (Or.inl rfl) (pe_ix ix_list (pv 3) (pe_ix ix_list (pv 2) (pv 5) (fun _ _ => rfl)) (fun _ _ => rfl)))
    (pss_one (ps_asg (pe_ix ix_list (pv 2) (pe_ix ix_list (pe_ix ix_list (pv 1) (pv 5) (fun _ _ => rfl)) (pv 6) (fun _ _ => rfl)) (fun _ _ => rfl)) (pg_sub (pv 4) (pe_ix ix_list (pv 2) (pv 6) (fun _ _ => rfl)) set_list)))))))
    (pss_one (ps_ret (pv 3))))))
theorem w_law_rows_drawn {P : Program} {w : World} {K : PySem.W.Frag} {mg : Str → Option Value} {base : Heap} (T : Txt P K mg)
    (G_law_twisted_rows : Good P w K mg base 6 (He.ga K "_law_twisted_rows") ["_law_pen_here", "_law_rows"] (sp_law_twisted_rows K))
    (G_law_base_rows : Good P w K mg base 6 (He.ga K "_law_base_rows") ["_law_pen_here"] (sp_law_base_rows K))
    (G_law_draw : Good P w K mg base 2 (He.ga K "_law_draw") ["_law_pen_here", "_law_span"] (sp_law_draw K))
    {f : Addr} {cdv : Value} {A : Around} {outer : List Env} {s : Shared} {H : Hp} {E : XK} (hr : Room 7 (A.deeper (envOfC "_law_rows_drawn" (defScope s_law_rows_drawn) s.heap.objs.size f cdv))) :
    PSs (cxOf (L2.CX P w) P w K mg base n_law_rows_drawn "_law_rows_drawn" (defScope s_law_rows_drawn) f cdv A outer s H E) (defBody s_law_rows_drawn) (t_law_rows_drawn K) := by
  have nd := sc_law_rows_drawn.nd
  exact (pss_cons (ps_set (i := 1) nd rfl (Or.inl rfl) (f_call T G_law_twisted_rows (hr.mono (by decide)) (T.glo "_law_twisted_rows" (by decide +kernel)) (pa_cons (pv 0) (pa_cons (f_call T G_law_base_rows (hr.mono (by decide)) (T.glo "_law_base_rows" (by decide +kernel)) (pa_cons (pv 0) pa_nil)) pa_nil))))
    (pss_cons (ps_if (pt_cmpR op_eq (f_call T G_law_draw (hr.mono (by decide)) (T.glo "_law_draw" (by decide +kernel)) (pa_cons (pv 0) (pa_cons pe_int pa_nil))) pe_int (nomark _)) (pss_cons (ps_set (i := 2) nd rfl (Or.inl rfl) (pe_ix ix_list (pv 1) (f_call T G_law_draw (hr.mono (by decide)) (T.glo "_law_draw" (by decide +kernel)) (pa_cons (pv 0) (pa_cons (c_len (T.free "len" (by decide +kernel)) (pv 1)) pa_nil))) (fun _ _ => rfl)))
    (pss_one (ps_asg (f_call T G_law_draw (hr.mono (by decide)) (T.glo "_law_draw" (by decide +kernel)) (pa_cons (pv 0) (pa_cons (c_len (T.free "len" (by decide +kernel)) (pv 1)) pa_nil))) (pg_sub (pv 2) (f_call T G_law_draw (hr.mono (by decide)) (T.glo "_law_draw" (by decide +kernel)) (pa_cons (pv 0) (pa_cons (c_len (T.free "len" (by decide +kernel)) (pv 1)) pa_nil))) set_list)))) pss_nil)
    (pss_one (ps_ret (pv 1)))))
theorem w_law_table_of_rows {P : Program} {w : World} {K : PySem.W.Frag} {mg : Str → Option Value} {base : Heap} (T : Txt P K mg)
    (G_Tinit1 : Good1 P w K mg base 6 (mTab K "__init__") ["self", "size", "rows"] (sp_Tinit K))
    (G_Tsetitem : Good P w K mg base 9 (mTab K "__setitem__") ["self", "at", "worth"] (sp_Tsetitem K))
    {f : Addr} {cdv : Value} {A : Around} {outer : List Env} {s : Shared} {H : Hp} {E : XK} (hr : Room 11 (A.deeper (envOfC "_law_table_of_rows" (defScope s_law_table_of_rows) s.heap.objs.size f cdv))) :
    PSs (cxOf (L2.CX P w) P w K mg base n_law_table_of_rows "_law_table_of_rows" (defScope s_law_table_of_rows) f cdv A outer s H E) (defBody s_law_table_of_rows) (t_law_table_of_rows K) := by
  have nd := sc_law_table_of_rows.nd
  exact (pss_cons (ps_set (i := 1) nd rfl (Or.inl rfl) (o_make1 T G_Tinit1 (hr.mono (by decide)) passL (pa_cons (c_len (T.free "len" (by decide +kernel)) (pv 0)) pa_nil) (T.glo "Table" (by decide +kernel))))
    (pss_cons (ps_for (passes_of rfl) rfl (pi_range1 (by rfl) (T.free "range" (by decide +kernel)) (pa_cons (c_len (T.free "len" (by decide +kernel)) (pv 0)) pa_nil)) (pg_name (i := 2) nd rfl (Or.inl rfl))
    (pss_one (ps_for (passes_of rfl) rfl (pi_range1 (by rfl) (T.free "range" (by decide +kernel)) (pa_cons (c_len (T.free "len" (by decide +kernel)) (pv 0)) pa_nil)) (pg_name (i := 3) nd rfl (Or.inl rfl))
    (pss_one (ps_asg (pe_ix ix_list (pe_ix ix_list (pv 0) (pv 2) (fun _ _ => rfl)) (pv 3) (fun _ _ => rfl)) (pg_sub (pv 1) (pe_tup (pa_cons (pv 2) (pa_cons (pv 3) pa_nil))) (o_set T G_Tsetitem (hr.mono (by decide)) passL)))))))
    (pss_one (ps_ret (pv 1)))))
theorem w_law_rows_of_table {P : Program} {w : World} {K : PySem.W.Frag} {mg : Str → Option Value} {base : Heap} (T : Txt P K mg)
    (G_Tgetitem : Good P w K mg base 9 (mTab K "__getitem__") ["self", "at"] (sp_Tgetitem K))
    {f : Addr} {cdv : Value} {A : Around} {outer : List Env} {s : Shared} {H : Hp} {E : XK} (hr : Room 11 (A.deeper (envOfC "_law_rows_of_table" (defScope s_law_rows_of_table) s.heap.objs.size f cdv))) :
    PSs (cxOf (L2.CX P w) P w K mg base n_law_rows_of_table "_law_rows_of_table" (defScope s_law_rows_of_table) f cdv A outer s H E) (defBody s_law_rows_of_table) (t_law_rows_of_table K) := by
  have nd := sc_law_rows_of_table.nd
  exact (pss_one (ps_ret (pe_lc (own := [("_law_a", 1)]) (g := (gName 1)) (tt := tYes) rfl nd (pi_range1 (by rfl) (T.free "range" (by decide +kernel)) (pa_cons (pe_fld (pv 0) rfl) pa_nil)) (blkOk_by (by kernel_rfl)) (fun _ _ _ _ _ => pg_name (i := 1) nd rfl (by first | exact Or.inl rfl | exact Or.inr rfl)) (fun _ _ _ _ _ => pts_nil) (fun _ _ _ _ _ => (pe_lc (own := [("_law_b", 2)]) (g := (gName 2)) (tt := tYes) rfl nd (pi_range1 (by rfl) (T.free "range" (by decide +kernel)) (pa_cons (pe_fld (pv 0) rfl) pa_nil)) (blkOk_by (by kernel_rfl)) (fun _ _ _ _ _ => pg_name (i := 2) nd rfl (by first | exact Or.inl rfl | exact Or.inr rfl)) (fun _ _ _ _ _ => pts_nil) (fun _ _ _ _ _ => (o_get T G_Tgetitem (hr.mono (by decide)) passL (pv 0) (pe_tup (pa_cons (pv 1) (pa_cons (pv 2) pa_nil))))))))))
theorem w_law_closed_values {P : Program} {w : World} {K : PySem.W.Frag} {mg : Str → Option Value} {base : Heap} (T : Txt P K mg)
    (G_law_once : Good P w K mg base 2 (He.ga K "_law_once") ["_law_items"] (sp_law_once K))
    {f : Addr} {cdv : Value} {A : Around} {outer : List Env} {s : Shared} {H : Hp} {E : XK} (hr : Room 3 (A.deeper (envOfC "_law_closed_values" (defScope s_law_closed_values) s.heap.objs.size f cdv))) :
    PSs (cxOf (L2.CX P w) P w K mg base n_law_closed_values "_law_closed_values" (defScope s_law_closed_values) f cdv A outer s H E) (defBody s_law_closed_values) (t_law_closed_values K) := by
  have nd := sc_law_closed_values.nd
  exact (pss_cons (ps_par (i := 2) (j := 3) (by rfl) nd rfl rfl (by decide) rfl rfl (pa_cons (f_call T G_law_once (hr.mono (by decide)) (T.glo "_law_once" (by decide +kernel)) (pa_cons (pv 1) pa_nil)) (pa_cons pe_int pa_nil)) (by rfl))
    (pss_cons (ps_while (passes_of rfl) (pt_cmpR op_lt (pv 3) (c_len (T.free "len" (by decide +kernel)) (pv 2)) (nomark _))
    (pss_cons (ps_for (passes_of rfl) rfl (pi_list (c_list (T.free "list" (by decide +kernel)) (pv 2))) (pg_name (i := 4) nd rfl (Or.inl rfl))
    (pss_cons (ps_par (i := 5) (j := 6) (by rfl) nd rfl rfl (by decide) rfl rfl (pa_cons (pe_ix ix_list (pv 0) (pe_ix ix_list (pv 2) (pv 3) (fun _ _ => rfl)) (fun _ _ => rfl)) (pa_cons (pe_ix ix_list (pv 0) (pv 4) (fun _ _ => rfl)) pa_nil)) (by rfl))
    (pss_one (ps_set (i := 2) nd rfl (Or.inl rfl) (f_call T G_law_once (hr.mono (by decide)) (T.glo "_law_once" (by decide +kernel)) (pa_cons (pe_op op_cat (pv 2) (pe_lst (pa_cons (pe_ix ix_list (pv 5) (pv 4) (fun _ _ => rfl)) (pa_cons (pe_ix ix_list (pv 6) (pe_ix ix_list (pv 2) (pv 3) (fun _ _ => rfl)) (fun _ _ => rfl)) pa_nil)))) pa_nil))))))
    (pss_one (ps_set (i := 3) nd rfl (Or.inl rfl) (pe_op op_add (pv 3) pe_int)))))
    (pss_one (ps_ret (c_sorted (T.free "sorted" (by decide +kernel)) (pe_lc (own := [("_law_value", 7)]) (g := (gName 7)) (tt := tYes) rfl nd (pi_list (pv 2)) (blkOk_by (by kernel_rfl)) (fun _ _ _ _ _ => pg_name (i := 7) nd rfl (by first | exact Or.inl rfl | exact Or.inr rfl)) (fun _ _ _ _ _ => pts_nil) (fun _ _ _ _ _ => (c_int (T.free "int" (by decide +kernel)) (pv 7)))))))))
theorem w_law_once {P : Program} {w : World} {K : PySem.W.Frag} {mg : Str → Option Value} {base : Heap} (T : Txt P K mg)
    {f : Addr} {cdv : Value} {A : Around} {outer : List Env} {s : Shared} {H : Hp} {E : XK} (hr : Room 1 (A.deeper (envOfC "_law_once" (defScope s_law_once) s.heap.objs.size f cdv))) :
    PSs (cxOf (L2.CX P w) P w K mg base n_law_once "_law_once" (defScope s_law_once) f cdv A outer s H E) (defBody s_law_once) (t_law_once K) := by
  have nd := sc_law_once.nd
  exact (pss_cons (ps_set (i := 1) nd rfl (Or.inl rfl) (pe_lst pa_nil))
    (pss_cons (ps_for (passes_of rfl) rfl (pi_list (pv 0)) (pg_name (i := 2) nd rfl (Or.inl rfl))
    (pss_one (ps_set (i := 1) nd rfl (Or.inl rfl) (pe_op op_cat (pv 1) (pe_op op_rep (pe_lst (pa_cons (pv 2) pa_nil)) (c_int (T.free "int" (by decide +kernel)) (pe_cmpR op_notIn_seq (pv 2) (pv 1) (by rfl))))))))
    (pss_one (ps_ret (pv 1)))))
theorem w_law_rows_text {P : Program} {w : World} {K : PySem.W.Frag} {mg : Str → Option Value} {base : Heap} (T : Txt P K mg)
    {f : Addr} {cdv : Value} {A : Around} {outer : List Env} {s : Shared} {H : Hp} {E : XK} (hr : Room 1 (A.deeper (envOfC "_law_rows_text" (defScope s_law_rows_text) s.heap.objs.size f cdv))) :
    PSs (cxOf (L2.CX P w) P w K mg base n_law_rows_text "_law_rows_text" (defScope s_law_rows_text) f cdv A outer s H E) (defBody s_law_rows_text) (t_law_rows_text K) := by
  have nd := sc_law_rows_text.nd
  exact (pss_one (ps_ret (pe_join pe_str (pe_lc (own := [("_law_line", 1)]) (g := (gName 1)) (tt := tYes) rfl nd (pi_list (pv 0)) (blkOk_by (by kernel_rfl)) (fun _ _ _ _ _ => pg_name (i := 1) nd rfl (by first | exact Or.inl rfl | exact Or.inr rfl)) (fun _ _ _ _ _ => pts_nil) (fun _ _ _ _ _ => (pe_join pe_str (pe_lc (own := [("_law_value", 2)]) (g := (gName 2)) (tt := tYes) rfl nd (pi_list (pv 1)) (blkOk_by (by kernel_rfl)) (fun _ _ _ _ _ => pg_name (i := 2) nd rfl (by first | exact Or.inl rfl | exact Or.inr rfl)) (fun _ _ _ _ _ => pts_nil) (fun _ _ _ _ _ => (c_str (T.free "str" (by decide +kernel)) (pv 2))))))))))
theorem w_law_open_pair {P : Program} {w : World} {K : PySem.W.Frag} {mg : Str → Option Value} {base : Heap} (T : Txt P K mg)
    {f : Addr} {cdv : Value} {A : Around} {outer : List Env} {s : Shared} {H : Hp} {E : XK} (hr : Room 1 (A.deeper (envOfC "_law_open_pair" (defScope s_law_open_pair) s.heap.objs.size f cdv))) :
    PSs (cxOf (L2.CX P w) P w K mg base n_law_open_pair "_law_open_pair" (defScope s_law_open_pair) f cdv A outer s H E) (defBody s_law_open_pair) (t_law_open_pair K) := by
  have nd := sc_law_open_pair.nd
  exact (pss_cons (ps_for (passes_of rfl) rfl (pi_list (pv 1)) (pg_name (i := 2) nd rfl (Or.inl rfl))
    (pss_one (ps_for (passes_of rfl) rfl (pi_list (pv 1)) (pg_name (i := 3) nd rfl (Or.inl rfl))
    (pss_cons (ps_set (i := 4) nd rfl (Or.inl rfl) (pe_ix ix_list (pv 0) (pv 2) (fun _ _ => rfl)))
    (pss_one (ps_if (pt_cmpR op_notIn_seq (pe_ix ix_list (pv 4) (pv 3) (fun _ _ => rfl)) (pv 1) (by rfl)) (pss_one (ps_ret (pe_tup (pa_cons pe_str (pa_cons (pv 2) (pa_cons (pv 3) (pa_cons pe_bl pa_nil))))))) pss_nil))))))
    (pss_one (ps_ret pe_non)))
end K28
end
section
namespace K28
open PySem PySem.Spec L2 PyProof.Rows Evl
/-! ### lists of numbers -/
theorem nI_len (l : List Nat) : (nI l).length = l.length := List.length_map ..
theorem nI_at {l : List Nat} {i x : Nat} (h : l[i]? = some x) : (nI l)[i]? = some (V.int (x : Int)) := by
  unfold nI
  rw [List.getElem?_map, h]
  rfl
theorem nI_of {l : List Nat} {i : Nat} {v : V} (h : (nI l)[i]? = some v) : ∃ x : Nat, l[i]? = some x ∧ v = V.int (x : Int) := by
  unfold nI at h
  rw [List.getElem?_map] at h
  cases e : l[i]? with
  | none =>
    rw [e] at h
    cases h
  | some x =>
    rw [e] at h
    cases h
    exact ⟨x, rfl, rfl⟩
theorem nI_app (l m : List Nat) : nI (l ++ m) = nI l ++ nI m := List.map_append
theorem nI_one (x : Nat) : nI [x] = [V.int (x : Int)] := rfl
theorem nI_map (l : List Nat) : nI l = iI (l.map fun (n : Nat) => (n : Int)) := by
  unfold nI iI
  rw [List.map_map]
  rfl
theorem nI_inj : ∀ {l m : List Nat}, nI l = nI m → l = m
  | [], [], _ => rfl
  | [], _ :: _, h => by cases h
  | _ :: _, [], h => by cases h
  | x :: l, y :: m, h => by
    have h1 : V.int (x : Int) = V.int (y : Int) := (List.cons.inj h).1
    have h2 : nI l = nI m := (List.cons.inj h).2
    have e : x = y := by
      cases h1
      rfl
    rw [e, nI_inj h2]
theorem iI_len (l : List Int) : (iI l).length = l.length := List.length_map ..
theorem iI_at {l : List Int} {i : Nat} {x : Int} (h : l[i]? = some x) : (iI l)[i]? = some (V.int x) := by
  unfold iI
  rw [List.getElem?_map, h]
  rfl
theorem iI_of {l : List Int} {i : Nat} {v : V} (h : (iI l)[i]? = some v) : ∃ x : Int, l[i]? = some x ∧ v = V.int x := by
  unfold iI at h
  rw [List.getElem?_map] at h
  cases e : l[i]? with
  | none =>
    rw [e] at h
    cases h
  | some x =>
    rw [e] at h
    cases h
    exact ⟨x, rfl, rfl⟩
theorem nI_flat (l : List Nat) : (nI l).all flatV = true := by
  rw [List.all_eq_true]
  intro v hv
  obtain ⟨x, _, rfl⟩ := List.mem_map.mp hv
  rfl
theorem iI_flat (l : List Int) : (iI l).all flatV = true := by
  rw [List.all_eq_true]
  intro v hv
  obtain ⟨x, _, rfl⟩ := List.mem_map.mp hv
  rfl
theorem nI_in (l : List Nat) (x : Nat) : inV (.int (x : Int)) (nI l) = decide (x ∈ l) := by
  induction l with
  | nil => rfl
  | cons y l ih =>
    show (eqV (.int (y : Int)) (.int (x : Int)) || inV (.int (x : Int)) (nI l)) = _
    rw [ih]
    have e : eqV (.int (y : Int)) (.int (x : Int)) = decide (x = y) := by
      show ((y : Int) == (x : Int)) = _
      by_cases h : x = y
      · subst h
        simp
      · rw [decide_eq_false h]
        rw [beq_eq_false_iff_ne]
        omega
    rw [e]
    by_cases h1 : x = y
    · subst h1
      simp
    · by_cases h2 : x ∈ l
      · simp [h1, h2]
      · simp [h1, h2]
/-! ### what stays -/
theorem RowsAt.ex {H H' : Hp} {r : Addr} {as : List Addr} {R : List (List Nat)} (h : RowsAt H r as R) (e : Ex H H') : RowsAt H' r as R := ⟨e _ _ h.at_, h.len, fun i a x ha hx => e _ _ (h.row i a x ha hx)⟩
theorem TblAt.ex {K : PySem.W.Frag} {H H' : Hp} {t r : Addr} {n : Nat} {as : List Addr} {R : List (List Nat)} (h : TblAt K H t n r as R) (e : Ex H H') : TblAt K H' t n r as R := by
  obtain ⟨⟨dx, hi⟩, h2, h3, h4, h5, h6⟩ := h
  exact ⟨⟨dx, e _ _ hi⟩, h2.ex e, h3, h4, h5, h6⟩
theorem PenAt.ex {H H' : Hp} {p c : Addr} {t : Nat} (h : PenAt H p c t) (e : Ex H H') : PenAt H' p c t := by
  obtain ⟨k, l, cells, h1, h2, h3, h4⟩ := h
  exact ⟨k, l, cells, e _ _ h1, e _ _ h2, h3, h4⟩
theorem PenAt.up {H : Hp} {p c : Addr} {t u : Nat} (h : PenAt H p c t) (e : t ≤ u) : PenAt H p c u := by
  obtain ⟨k, l, cells, h1, h2, h3, h4⟩ := h
  exact ⟨k, l, cells, h1, h2, h3, by omega⟩
theorem fr_of {S : Addr → Prop} {H H' : Hp} (e : Ex H H') : Fr S H H' := fun a o h _ => e a o h
theorem Fr.refl (S : Addr → Prop) (H : Hp) : Fr S H H := fun _ _ h _ => h
theorem Fr.trans {S : Addr → Prop} {H H1 H2 : Hp} (a : Fr S H H1) (b : Fr S H1 H2) : Fr S H H2 := fun x o h n => b x o (a x o h n) n
theorem Fr.ex {S : Addr → Prop} {H H1 H2 : Hp} (a : Fr S H H1) (b : Ex H1 H2) : Fr S H H2 := a.trans (fr_of b)
theorem PenGo.trans {p c : Addr} {t u : Nat} {H H1 H2 : Hp} (a : PenGo p c t H H1) (b : PenGo p c u H1 H2) : PenGo p c u H H2 := ⟨a.1.trans b.1, b.2⟩
theorem PenGo.ex {p c : Addr} {t : Nat} {H H1 H2 : Hp} (a : PenGo p c t H H1) (b : Ex H1 H2) : PenGo p c t H H2 := ⟨a.1.ex b, a.2.ex b⟩
theorem PenGo.up {p c : Addr} {t u : Nat} {H H1 : Hp} (a : PenGo p c t H H1) (h : t ≤ u) : PenGo p c u H H1 := ⟨a.1, a.2.up h⟩
theorem PenGo.of {p c : Addr} {t : Nat} {H H1 : Hp} (h : PenAt H p c t) (e : Ex H H1) : PenGo p c t H H1 := ⟨fr_of e, h.ex e⟩
/-- not at the pen -/
theorem lst_ne_pen {H : Hp} {p c a : Addr} {t : Nat} {xs : List V} (h : PenAt H p c t) (ha : H a = some (.lst xs)) : a ≠ p := fun e => by
  obtain ⟨k, l, cells, h1, _⟩ := h
  rw [e, h1] at ha
  cases ha
theorem PenGo.lst {p c a : Addr} {t u : Nat} {H H1 : Hp} {xs : List V} (g : PenGo p c t H H1) (h : PenAt H p c u) (ha : H a = some (.lst xs)) : H1 a = some (.lst xs) := g.1 a _ ha (lst_ne_pen h ha)
theorem RowsAt.pen {p c r : Addr} {t u : Nat} {H H' : Hp} {as : List Addr} {R : List (List Nat)} (h : RowsAt H r as R) (hp : PenAt H p c u) (g : PenGo p c t H H') : RowsAt H' r as R :=
  ⟨g.lst hp h.at_, h.len, fun i a x ha hx => g.lst hp (h.row i a x ha hx)⟩
theorem free_fr {S : Addr → Prop} {H H' : Hp} {a : Addr} (e : Fr S H H') (h : H' a = none) (n : ¬ S a) : H a = none := by
  cases q : H a with
  | none => rfl
  | some o =>
    rw [e a o q n] at h
    cases h
theorem free_pen {p c a : Addr} {t u : Nat} {H H' : Hp} (g : PenGo p c t H H') (hp : PenAt H p c u) (h : H' a = none) : H a = none := by
  refine free_fr g.1 h fun e => ?_
  subst e
  obtain ⟨k, l, cells, h1, _⟩ := g.2
  rw [h1] at h
  cases h
theorem newAll.back {H H' : Hp} {r : Addr} {as : List Addr} (h : newAll H' r as) (e : Ex H H') : newAll H r as := ⟨fresh_back e h.1, fun a ha => fresh_back e (h.2 a ha)⟩
theorem newAll.pen {p c r : Addr} {t u : Nat} {H H' : Hp} {as : List Addr} (h : newAll H' r as) (g : PenGo p c t H H') (hp : PenAt H p c u) : newAll H r as := ⟨free_pen g hp h.1, fun a ha => free_pen g hp (h.2 a ha)⟩
/-! ### operators on whole numbers -/
section
variable {K : PySem.W.Frag} {σ : L2.St} {H : Hp} {ta tb tc te : TE} {i j : Int}
theorem ev_add (ha : Ev ta σ H (.int i)) (hb : Ev tb σ H (.int j)) : Ev (tOp rAddK ta tb) σ H (.int (i + j)) := ev_op ha hb (rv_I0 (g := fun i j => .int (i + j)))
theorem ev_sub (ha : Ev ta σ H (.int i)) (hb : Ev tb σ H (.int j)) : Ev (tOp rSubK ta tb) σ H (.int (i - j)) := ev_op ha hb (rv_I0 (g := fun i j => .int (i - j)))
theorem ev_mul (ha : Ev ta σ H (.int i)) (hb : Ev tb σ H (.int j)) (h : (-(2 ^ 64) < i ∧ i < 2 ^ 64) ∨ (-(2 ^ 64) < j ∧ j < 2 ^ 64)) : Ev (tOp rMulK ta tb) σ H (.int (i * j)) :=
  ev_op ha hb (rv_I (C := fun i j => (-(2 ^ 64) < i ∧ i < 2 ^ 64) ∨ (-(2 ^ 64) < j ∧ j < 2 ^ 64)) (g := fun i j => .int (i * j)) h)
theorem ev_mod (ha : Ev ta σ H (.int i)) (hb : Ev tb σ H (.int j)) (h : 0 < j) : Ev (tOp rModK ta tb) σ H (.int (i % j)) := ev_op ha hb (rv_I (C := fun _ j => 0 < j) (g := fun i j => .int (i % j)) h)
theorem ev_div (ha : Ev ta σ H (.int i)) (hb : Ev tb σ H (.int j)) (h : CDivW i j) : Ev (tOp rDivK ta tb) σ H (.int (i / j)) := ev_op ha hb (rv_I (C := CDivW) (g := fun i j => .int (i / j)) h)
theorem ev_pow (ha : Ev ta σ H (.int i)) (hb : Ev tb σ H (.int j)) (h : CPow i j) : Ev (tOp rPowK ta tb) σ H (.int (i ^ j.toNat)) := ev_op ha hb (rv_I (C := CPow) (g := fun i j => .int (i ^ j.toNat)) h)
theorem ev_neg (ha : Ev ta σ H (.int i)) : Ev (tUn rNegK ta) σ H (.int (-i)) := ev_un ha ru_neg
theorem et_lt (ha : Ev ta σ H (.int i)) (hb : Ev tb σ H (.int j)) : EvT (tTest (tOp rLtK ta tb)) σ H (decide (i < j)) := et_test (ev_op ha hb (rv_I0 (g := fun i j => .bl (decide (i < j)))))
theorem et_gt (ha : Ev ta σ H (.int i)) (hb : Ev tb σ H (.int j)) : EvT (tTest (tOp rGtK ta tb)) σ H (decide (i > j)) := et_test (ev_op ha hb (rv_I0 (g := fun i j => .bl (decide (i > j)))))
theorem et_ge (ha : Ev ta σ H (.int i)) (hb : Ev tb σ H (.int j)) : EvT (tTest (tOp rGeK ta tb)) σ H (decide (i ≥ j)) := et_test (ev_op ha hb (rv_I0 (g := fun i j => .bl (decide (i ≥ j)))))
theorem et_eq {x y : V} (ha : Ev ta σ H x) (hb : Ev tb σ H y) (h : scal x y = true) : EvT (tTest (tOp rEq ta tb)) σ H (decide (x = y)) := et_test (ev_op ha hb (rv_eq h))
theorem et_ne {x y : V} (ha : Ev ta σ H x) (hb : Ev tb σ H y) (h : scal x y = true) : EvT (tTest (tOp rNe ta tb)) σ H (!decide (x = y)) := et_test (ev_op ha hb (rv_ne h))
theorem et_isN {x : V} (ha : Ev ta σ H x) : EvT (tTest (tOp rIsNK ta (tC .non))) σ H (decide (x = .non)) := et_test (ev_op ha ev_c fun H1 _ _ q => ⟨rfl, q H1 (Ex.refl H1)⟩)
theorem et_notN {x : V} (ha : Ev ta σ H x) : EvT (tTest (tOp rNotNK ta (tC .non))) σ H (!decide (x = .non)) := et_test (ev_op ha ev_c fun H1 _ _ q => ⟨rfl, q H1 (Ex.refl H1)⟩)
theorem ev_int1 (ha : Ev ta σ H (.int i)) : Ev (tCB rInt1 (tCons ta tNil)) σ H (.int i) := ev_cb (ea_cons ha ea_nil) fun H1 _ _ q => .inl ⟨i, rfl, q H1 (Ex.refl H1)⟩
theorem ev_intB {b : Bool} (ha : Ev ta σ H (.bl b)) : Ev (tCB rInt1 (tCons ta tNil)) σ H (.int (if b then 1 else 0)) := ev_cb (ea_cons ha ea_nil) fun H1 _ _ q => .inr ⟨b, rfl, q H1 (Ex.refl H1)⟩
theorem ev_abs (ha : Ev ta σ H (.int i)) : Ev (tCB rAbsK (tCons ta tNil)) σ H (.int (if i < 0 then -i else i)) := ev_cb (ea_cons ha ea_nil) fun H1 _ _ q => ⟨i, rfl, q H1 (Ex.refl H1)⟩
theorem ev_min2 (ha : Ev ta σ H (.int i)) (hb : Ev tb σ H (.int j)) : Ev (tCB rMin2 (tCons ta (tCons tb tNil))) σ H (.int (if j < i then j else i)) := ev_cb (ea_cons ha (ea_cons hb ea_nil)) fun H1 _ _ q => ⟨i, j, rfl, q H1 (Ex.refl H1)⟩
/-- xs[i] -/
theorem ev_ixL {p : Addr} {xs : List V} {k : Nat} {v : V} (ha : Ev ta σ H (.ref p)) (hb : Ev tb σ H (.int (k : Int))) (h : SqL K H p xs) (hv : xs[k]? = some v) : Ev (tOp (rIxL K) ta tb) σ H v := ev_op ha hb (rv_ixL h (atI_nat hv))
theorem ev_ixT {p : Addr} {xs : List V} {k : Nat} {v : V} (ha : Ev ta σ H (.ref p)) (hb : Ev tb σ H (.int (k : Int))) (h : SqT K H p xs) (hv : xs[k]? = some v) : Ev (tOp (rIxT K) ta tb) σ H v := ev_op ha hb (rv_ixT h (atI_nat hv))
theorem RowsAt.ref {H : Hp} {r : Addr} {as : List Addr} {R : List (List Nat)} {n a : Nat} (h : RowsAt H r as R) (ok : TabOk n R) (ha : a < n) : ∃ x, as[a]? = some x ∧ (as.map V.ref)[a]? = some (V.ref x) ∧ H x = some (.lst (nI (R.getD a []))) := by
  have hl : a < as.length := by rw [h.len, ok.len]; exact ha
  have e : as[a]? = some as[a] := List.getElem?_eq_getElem hl
  exact ⟨as[a], e, by rw [List.getElem?_map, e]; rfl, h.row a _ _ e (ok.row_at ha).1⟩
theorem ev_row {r : Addr} {as : List Addr} {R : List (List Nat)} {n a : Nat} {x : Addr} (hr : RowsAt H r as R) (ok : TabOk n R) (h1 : Ev ta σ H (.ref r)) (h2 : Ev tb σ H (.int (a : Int))) (hx : as[a]? = some x) : Ev (tOp (rIxL K) ta tb) σ H (.ref x) :=
  ev_ixL h1 h2 (sq_of hr.at_) (by rw [List.getElem?_map, hx]; rfl)
/-- rows[a][b] -/
theorem ev_cell {r : Addr} {as : List Addr} {R : List (List Nat)} {n a b : Nat} (hr : RowsAt H r as R) (ok : TabOk n R) (ha : a < n) (hb : b < n) (h1 : Ev ta σ H (.ref r)) (h2 : Ev tb σ H (.int (a : Int))) (h3 : Ev tc σ H (.int (b : Int))) :
    Ev (tOp (rIxL K) (tOp (rIxL K) ta tb) tc) σ H (.int (opOf R a b : Nat)) := by
  obtain ⟨x, e1, e2, e3⟩ := hr.ref ok ha
  exact ev_ixL (ev_row hr ok h1 h2 e1) h3 (sq_of e3) (nI_at (ok.at_ ha hb))
theorem ev_lenL {p : Addr} {xs : List V} (ha : Ev ta σ H (.ref p)) (h : SqL K H p xs) : Ev (tCB (rLenS K) (tCons ta tNil)) σ H (.int (xs.length : Int)) := ev_len ha h
/-- o.f -/
theorem ev_fld {t C dx : Addr} {fs : List (Str × V)} {f : Str} {v : V} (h : Ev te σ H (.ref t)) (hi : H t = some (.ins C dx fs)) (c : Cls K C) (na : NoAttr K C f) (l : fs.lookup f = some v) : Ev (tFld K te f) σ H v := fun H1 e Q q =>
  h H1 e _ fun H2 e2 => ⟨t, C, dx, fs, v, rfl, e2 _ _ (e _ _ hi), c, na, l, q H2 e2⟩
/-- a def's call, a value -/
theorem ev_callV {sp : Sp} {vs : List V} {v : V} {ta : TA} (h : EvA ta σ H vs) (hs : ∀ H1, Ex H H1 → ∀ Q : VK, (∀ H2, Ex H1 H2 → Q v H2) → sp vs H1 Q E0) : Ev (tCall sp [] E0 ta) σ H v := fun H1 e Q q =>
  h H1 e _ fun H2 e2 => by
    show sp (vs ++ []) H2 Q E0
    rw [List.append_nil]
    exact hs H2 (e.trans e2) Q fun H3 e3 => q H3 (e2.trans e3)
theorem el_callL {sp : Sp} {vs xs : List V} {ta : TA} (h : EvA ta σ H vs) (hs : ∀ H1, Ex H H1 → ∀ Q : VK, (∀ p H2, H1 p = none → Ex H1 H2 → H2 p = some (.lst xs) → Q (.ref p) H2) → sp vs H1 Q E0) : EvL (tCall sp [] E0 ta) σ H xs := fun H1 e Q q =>
  h H1 e _ fun H2 e2 => by
    show sp (vs ++ []) H2 Q E0
    rw [List.append_nil]
    exact hs H2 (e.trans e2) Q fun p H3 hp e3 h3 => q p H3 (fresh_back e2 hp) (e2.trans e3) h3
/-- o.m(..), the object known -/
theorem ev_methV {C t dx : Addr} {m : Str} {fs : List (Str × V)} {sp : Sp} {vs : List V} {v : V} {E : XK} {to : TE} {ta : TA} (ho : Ev to σ H (.ref t)) (hi : H t = some (.ins C dx fs)) (hm : fs.lookup m = none) (h : EvA ta σ H vs)
    (hs : ∀ H1, Ex H H1 → ∀ Q : VK, (∀ H2, Ex H1 H2 → Q v H2) → sp (.ref t :: vs) H1 Q E) : Ev (tMeth C m sp [] E to ta) σ H v := fun H1 e Q q =>
  ho H1 e _ fun H2 e2 => ⟨t, dx, fs, rfl, e2 _ _ (e _ _ hi), hm, h H2 (e.trans e2) _ fun H3 e3 => by
    show sp (.ref t :: (vs ++ [])) H3 Q E
    rw [List.append_nil]
    exact hs H3 ((e.trans e2).trans e3) Q fun H4 e4 => q H4 ((e2.trans e3).trans e4)⟩
end
end K28
end
section
namespace K28
open PySem PySem.Spec L2 PyProof.Rows Evl
abbrev EndsK (Q : VK) : Ends := { nx := fun _ H' => Q .non H', rt := Q }
theorem cut_tail (x : V) (xs : List V) : cutV (x :: xs) (some 1) none = xs := by
  have e : HT.sIx (x :: xs).length 0 (some 1) = 1 := by
    show HT.sIx (x :: xs).length 0 (some ((1 : Nat) : Int)) = 1
    rw [HT.sIx_nat, List.length_cons]
    omega
  unfold cutV
  rw [e, HT.sIx_none, List.drop_succ_cons, List.drop_zero, List.length_cons]
  exact List.take_of_length_le (by omega)
theorem cut_to (xs : List V) (k : Nat) : cutV xs none (some (k : Int)) = xs.take k := by
  unfold cutV
  rw [HT.sIx_none, HT.sIx_nat, List.drop_zero, Nat.sub_zero]
  by_cases h : k ≤ xs.length
  · rw [Nat.min_eq_left h]
  · rw [Nat.min_eq_right (by omega), List.take_of_length_le (Nat.le_refl _), List.take_of_length_le (by omega)]
theorem cut_from (xs : List V) (k : Nat) : cutV xs (some (k : Int)) none = xs.drop k := by
  unfold cutV
  rw [HT.sIx_none, HT.sIx_nat]
  by_cases h : k ≤ xs.length
  · rw [Nat.min_eq_left h]
    exact List.take_of_length_le (by rw [List.length_drop]; omega)
  · rw [Nat.min_eq_right (by omega), List.drop_of_length_le (Nat.le_refl _), List.drop_of_length_le (by omega), List.take_nil]
section
variable {K : PySem.W.Frag} {σ : L2.St} {H : Hp} {te tc : TE} {D : Ends} {g : TG} {tu tz : TS}
theorem eu_tail {a : Addr} {x : V} {xs : List V} (h : Ev te σ H (.ref a)) (hs : SqT K H a (x :: xs)) : EvU (tSl (rSlT K) te (tPart (tC (.int 1))) tNoPart) σ H xs := fun H1 e _ q =>
  h H1 e _ fun H2 e2 => ⟨1, rfl, a, x :: xs, rfl, ex_t (e.trans e2) hs, fun z => by
    have e1 : HT.sIx (x :: xs).length 0 (some 1) = 1 := by
      show HT.sIx (x :: xs).length 0 (some ((1 : Nat) : Int)) = 1
      rw [HT.sIx_nat, List.length_cons]
      omega
    rw [e1] at z
    exact absurd z.1 (by decide), fun p hp => by
    rw [cut_tail]
    exact q p _ (fresh_back e2 hp) (e2.trans (Ex.new hp)) upd_same⟩
theorem el_tail {a : Addr} {x : V} {xs : List V} (h : Ev te σ H (.ref a)) (hs : SqL K H a (x :: xs)) : EvL (tSl (rSlL K) te (tPart (tC (.int 1))) tNoPart) σ H xs := by
  have h2 := el_sl (lo := some 1) (hi := none) h (eo_some ev_c) eo_none hs
  rw [cut_tail] at h2
  exact h2
/-- over a new tuple -/
theorem q_forNT {xs : List V} {tl : TE} (h : EvU tl σ H xs) (Pv : Addr → Nat → L2.St → Hp → Prop) (h0 : ∀ p H1, H p = none → Ex H H1 → H1 p = some (.tup xs) → Pv p 0 σ H1) (hl : ∀ p i σ' H', i ≤ xs.length → Pv p i σ' H' → SqT K H' p xs)
    (hs : ∀ p i x σ' H', xs[i]? = some x → Pv p i σ' H' → g x σ' H' fun σ2 H2 => tu { D with nx := Pv p (i + 1), ct := Pv p (i + 1), bk := tz D } σ2 H2) (hd : ∀ p σ' H', Pv p xs.length σ' H' → tz D σ' H') : tSeq (tFor (iTup K tl) g tu) tz D σ H :=
  h H (Ex.refl H) _ fun p H1 hp e h1 => ⟨p, rfl, ⟨xs, st_of h1⟩, for_tup (Pv p) (h0 p H1 hp e h1) (hl p) (hs p) (hd p)⟩
end
theorem take_succ_at {α : Type} {l : List α} {i : Nat} {x : α} (h : l[i]? = some x) : l.take (i + 1) = l.take i ++ [x] := by
  rw [List.take_succ, h]
  rfl
theorem fold_lt {n : Nat} {R : List (List Nat)} (ok : TabOk n R) : ∀ (l : List Nat) (x : Nat), x < n → (∀ y ∈ l, y < n) → l.foldl (opOf R) x < n
  | [], x, hx, _ => hx
  | y :: l, x, hx, h => fold_lt ok l _ (ok.lt hx (h y List.mem_cons_self)) fun z hz => h z (List.mem_cons_of_mem _ hz)
theorem r_put_row {K : PySem.W.Frag} : ∀ vs H Q E, sp_put_row K vs H Q E → t_put_row K (EndsK Q) (L2.start n_put_row vs) H := by
  rintro vs H Q E ⟨r, v, as, R, n, l, rfl, hr, ok, hv, hne, hl, hlt, q⟩
  obtain ⟨x, l, rfl⟩ : ∃ x l', l = x :: l' := by
    cases l with
    | nil => exact absurd rfl hne
    | cons x l => exact ⟨x, l, rfl⟩
  refine q_asg (v := .int (x : Int)) (ev_ixT (k := 0) (p := v) (xs := nI (x :: l)) (ev_var rfl) ev_c hv rfl) fun H1 e1 => ?_
  refine q_forNT (xs := nI l) (eu_tail (x := .int (x : Int)) (ev_var (i := 1) rfl) (ex_t e1 hv)) (fun p i σ' H' => H1 p = none ∧ Ex H1 H' ∧ H' p = some (.tup (nI l)) ∧ ∃ w : Option V, σ' = [some (.ref r), some (.ref v), some (.int ((l.take i).foldl (opOf R) x : Nat)), w])
    (fun p H2 hp e2 h2 => ⟨hp, e2, h2, none, rfl⟩) (fun p i σ' H' _ h => st_of h.2.2.1) (fun p i y σ' H' hy h => ?_) (fun p σ' H' h => ?_)
  · obtain ⟨hp, e2, h2, w, rfl⟩ := h
    obtain ⟨z, hz, rfl⟩ := nI_of hy
    have hz2 : z < n := hlt z (List.mem_cons_of_mem _ (List.mem_of_getElem? hz))
    have hf : (l.take i).foldl (opOf R) x < n := fold_lt ok _ _ (hlt x List.mem_cons_self) fun y hy => hlt y (List.mem_cons_of_mem _ (List.mem_of_mem_take hy))
    refine s_asg (v := .int (opOf R ((l.take i).foldl (opOf R) x) z : Nat)) (ev_cell (hr.ex (e1.trans e2)) ok hf hz2 (ev_var rfl) (ev_var rfl) (ev_var rfl)) fun H3 e3 => ?_
    refine ⟨hp, e2.trans e3, e3 _ _ h2, some (.int (z : Int)), ?_⟩
    rw [take_succ_at hz, List.foldl_append]
    rfl
  · obtain ⟨hp, e2, h2, w, rfl⟩ := h
    refine s_ret (v := .int (putRow (opOf R) (x :: l) : Nat)) (ev_is (ev_var rfl) ?_) fun H3 e3 => q H3 ((e1.trans e2).trans e3)
    rw [nI_len, List.take_length]
    rfl
theorem r_law_from_left {K : PySem.W.Frag} : ∀ vs H Q E, sp_law_from_left K vs H Q E → t_law_from_left K (EndsK Q) (L2.start n_law_from_left vs) H := by
  rintro vs H Q E ⟨r, v, as, R, n, l, rfl, hr, ok, hv, hne, hl, hlt, q⟩
  obtain ⟨x, l, rfl⟩ : ∃ x l', l = x :: l' := by
    cases l with
    | nil => exact absurd rfl hne
    | cons x l => exact ⟨x, l, rfl⟩
  refine q_asg (v := .int (x : Int)) (ev_ixL (k := 0) (p := v) (xs := nI (x :: l)) (ev_var rfl) ev_c (sq_of hv) rfl) fun H1 e1 => ?_
  refine q_forNLn (xs := nI l) (el_tail (x := .int (x : Int)) (ev_var (i := 1) rfl) (sq_of (e1 _ _ hv))) (fun p i σ' H' => H1 p = none ∧ Ex H1 H' ∧ H' p = some (.lst (nI l)) ∧ ∃ w : Option V, σ' = [some (.ref r), some (.ref v), some (.int ((l.take i).foldl (opOf R) x : Nat)), w])
    (fun p H2 hp e2 h2 => ⟨hp, e2, h2, none, rfl⟩) (fun p i σ' H' _ h => sq_of h.2.2.1) (fun p i y σ' H' hy h => ?_) (fun p σ' H' h => ?_)
  · obtain ⟨hp, e2, h2, w, rfl⟩ := h
    obtain ⟨z, hz, rfl⟩ := nI_of hy
    have hz2 : z < n := hlt z (List.mem_cons_of_mem _ (List.mem_of_getElem? hz))
    have hf : (l.take i).foldl (opOf R) x < n := fold_lt ok _ _ (hlt x List.mem_cons_self) fun y hy => hlt y (List.mem_cons_of_mem _ (List.mem_of_mem_take hy))
    refine s_asg (v := .int (opOf R ((l.take i).foldl (opOf R) x) z : Nat)) (ev_cell (hr.ex (e1.trans e2)) ok hf hz2 (ev_var rfl) (ev_var rfl) (ev_var rfl)) fun H3 e3 => ?_
    refine ⟨hp, e2.trans e3, e3 _ _ h2, some (.int (z : Int)), ?_⟩
    rw [take_succ_at hz, List.foldl_append]
    rfl
  · obtain ⟨hp, e2, h2, w, rfl⟩ := h
    refine s_ret (v := .int (putRow (opOf R) (x :: l) : Nat)) (ev_is (ev_var rfl) ?_) fun H3 e3 => q H3 ((e1.trans e2).trans e3)
    rw [nI_len, List.take_length]
    rfl
end K28
end
section
namespace K28
open PySem PySem.Spec L2 PyProof.Rows Evl
/-! ### a new object of which G holds -/
def EvG (te : TE) (σ : L2.St) (H : Hp) (G : Hp → Addr → Prop) : Prop := ∀ H1, Ex H H1 → ∀ Q : VK, (∀ p H2, H1 p = none → Ex H1 H2 → G H2 p → Q (.ref p) H2) → te σ H1 Q
def NoD (H H' : Hp) : Prop := ∀ a o, H a = some o → (∀ kvs, o ≠ .dK kvs) → H' a = some o
theorem noD_of {H H' : Hp} (e : Ex H H') : NoD H H' := fun a o h _ => e a o h
def Stays (G : Hp → Addr → Prop) : Prop := ∀ H H' p, NoD H H' → G H p → G H' p
abbrev IsO (o : HO) : Hp → Addr → Prop := fun H p => H p = some o
class NotD (mk : List V → HO) : Prop where
  no : ∀ xs kvs, mk xs ≠ .dK kvs
instance : NotD .tup := ⟨fun _ _ z => by cases z⟩
instance : NotD .lst := ⟨fun _ _ z => by cases z⟩
abbrev PairAt (mk : List V → HO) (e : Eqn) : Hp → Addr → Prop := fun H t => ∃ a b, H t = some (.tup [.ref a, .ref b]) ∧ H a = some (mk (nI e.1)) ∧ H b = some (mk (nI e.2))
theorem stays_pair (mk : List V → HO) [NotD mk] (e : Eqn) : Stays (PairAt mk e) := fun _ _ p x ⟨a, b, h1, h2, h3⟩ => ⟨a, b, x _ _ h1 (fun _ z => by cases z), x _ _ h2 (NotD.no _), x _ _ h3 (NotD.no _)⟩
theorem stays_eqs (mk : List V → HO) [NotD mk] (es : List Eqn) : Stays fun H p => EqsAt mk H p es := fun _ _ p x ⟨ts, h1, h2, h3⟩ => ⟨ts, x _ _ h1 (fun _ z => by cases z), h2, fun i t e ht he => stays_pair mk e _ _ t x (h3 i t e ht he)⟩
section
variable {K : PySem.W.Frag} {σ : L2.St} {H H' : Hp} {te ta tb : TE} {G G1 G2 : Hp → Addr → Prop} {mk : List V → HO} [NotD mk]
theorem EvG.mono (e : Ex H H') (h : EvG te σ H G) : EvG te σ H' G := fun H1 a Q q => h H1 (e.trans a) Q q
theorem eg_U {xs : List V} (h : EvU te σ H xs) : EvG te σ H (IsO (.tup xs)) := h
theorem eg_L {xs : List V} (h : EvL te σ H xs) : EvG te σ H (IsO (.lst xs)) := h
/-- (a, b) -/
theorem eg_pair {l r : List Nat} (ha : EvG ta σ H (IsO (mk (nI l)))) (hb : EvG tb σ H (IsO (mk (nI r)))) : EvG (tTup (tCons ta (tCons tb tNil))) σ H (PairAt mk (l, r)) := fun H1 e Q q =>
  ha H1 e _ fun a H2 na e2 h2 => hb H2 (e.trans e2) _ fun b H3 nb e3 h3 => ⟨by show 2 ≤ sizeLine; rw [sizeLine_eq]; decide, fun p hp =>
    q p _ (fresh_back (e2.trans e3) hp) ((e2.trans e3).trans (Ex.new hp)) ⟨a, b, upd_same, Ex.new hp _ _ (e3 _ _ h2), Ex.new hp _ _ h3⟩⟩
theorem eg_one {e : Eqn} (ha : EvG ta σ H (PairAt mk e)) : EvG (tLst (tCons ta tNil)) σ H fun H p => EqsAt mk H p [e] := fun H1 x Q q =>
  ha H1 x _ fun a H2 na e2 h2 => ⟨by show 1 ≤ sizeLine; rw [sizeLine_eq]; decide, fun p hp => q p _ (fresh_back e2 hp) (e2.trans (Ex.new hp)) ⟨[a], upd_same, rfl, fun i t e' ht he => by
    cases i with
    | zero =>
      cases ht
      cases he
      exact stays_pair mk e _ _ a (noD_of (Ex.new hp)) h2
    | succ i => cases ht⟩⟩
theorem eg_two {e f : Eqn} (ha : EvG ta σ H (PairAt mk e)) (hb : EvG tb σ H (PairAt mk f)) : EvG (tLst (tCons ta (tCons tb tNil))) σ H fun H p => EqsAt mk H p [e, f] := fun H1 x Q q =>
  ha H1 x _ fun a H2 na e2 h2 => hb H2 (x.trans e2) _ fun b H3 nb e3 h3 => ⟨by show 2 ≤ sizeLine; rw [sizeLine_eq]; decide, fun p hp => q p _ (fresh_back (e2.trans e3) hp) ((e2.trans e3).trans (Ex.new hp)) ⟨[a, b], upd_same, rfl, fun i t e' ht he => by
    match i with
    | 0 =>
      cases ht
      cases he
      exact stays_pair mk e _ _ a (noD_of (e3.trans (Ex.new hp))) h2
    | 1 =>
      cases ht
      cases he
      exact stays_pair mk f _ _ b (noD_of (Ex.new hp)) h3
    | i + 2 => cases ht⟩⟩
theorem eg_nil : EvG (tLst tNil) σ H fun H p => EqsAt mk H p [] := fun H1 x Q q =>
  ⟨Nat.zero_le _, fun p hp => q p _ hp (Ex.new hp) ⟨[], upd_same, rfl, fun i t e ht _ => by cases ht⟩⟩
theorem eg_if {t : TT} {b : Bool} (h : EvT t σ H b) (h1 : b = true → EvG ta σ H G) (h2 : b = false → EvG tb σ H G) : EvG (tIf t ta tb) σ H G := fun H1 e Q q => h H1 e _ fun H2 e2 => by
  cases b with
  | true => exact h1 rfl H2 (e.trans e2) Q fun p H3 np e3 g => q p H3 (fresh_back e2 np) (e2.trans e3) g
  | false => exact h2 rfl H2 (e.trans e2) Q fun p H3 np e3 g => q p H3 (fresh_back e2 np) (e2.trans e3) g
theorem s_asgG {D : Ends} {tz : TS} {i : Nat} (h : EvG te σ H G) (k : ∀ p H1, H p = none → Ex H H1 → G H1 p → tz D (σ.set i (some (.ref p))) H1) : tSeq (tAsg te (gName i)) tz D σ H := h H (Ex.refl H) _ fun p H1 np e g => k p H1 np e g
theorem s_retG {D : Ends} (h : EvG te σ H G) (k : ∀ p H1, H p = none → Ex H H1 → G H1 p → D.rt (.ref p) H1) : tRet te D σ H := h H (Ex.refl H) _ k
/-- the entries of a display, each a text's key and a new object -/
structure Ent where
  key : Str
  te : TE
  G : Hp → Addr → Prop
def rowE (e : Ent) : TE × TE := (tC (.str e.key), e.te)
theorem pairs_go : ∀ (L : List Ent) (H : Hp) (Q : List (V × V) → Hp → Prop), (∀ e ∈ L, EvG e.te σ H e.G ∧ Stays e.G) →
    (∀ H2 (qs : List Addr), Ex H H2 → qs.length = L.length → (∀ (i : Nat) (q : Addr) (e : Ent), qs[i]? = some q → L[i]? = some e → e.G H2 q) → Q ((L.zip qs).map fun z => (V.str z.1.key, V.ref z.2)) H2) → tPairs (L.map rowE) σ H Q
  | [], H, Q, _, k => k H [] (Ex.refl H) rfl fun i q e hq _ => by cases hq
  | e :: L, H, Q, h, k => by
    obtain ⟨h1, st⟩ := h e List.mem_cons_self
    refine h1 H (Ex.refl H) _ fun p H1 np e1 g => ?_
    refine pairs_go L H1 _ (fun e' he' => ⟨(h e' (List.mem_cons_of_mem _ he')).1.mono e1, (h e' (List.mem_cons_of_mem _ he')).2⟩) fun H2 qs e2 hl hg => ?_
    refine k H2 (p :: qs) (e1.trans e2) (congrArg Nat.succ hl) fun i q e' hq he => ?_
    cases i with
    | zero =>
      cases hq
      cases he
      exact st _ _ _ (noD_of e2) g
    | succ i => exact hg i q e' hq he
def kvsOf (L : List Ent) (qs : List Addr) : List (Key × V) := (L.zip qs).map fun z => (.inr z.1.key, V.ref z.2)
theorem eg_disp (L : List Ent) (hL : L.length ≤ 15) (h : ∀ e ∈ L, EvG e.te σ H e.G ∧ Stays e.G) : EvG (tDisp (L.map rowE)) σ H fun H p => ∃ qs : List Addr, H p = some (.dK (mergeK [] (kvsOf L qs))) ∧ qs.length = L.length ∧ ∀ (i : Nat) (q : Addr) (e : Ent), qs[i]? = some q → L[i]? = some e → e.G H q := fun H1 x Q q p np => by
  refine pairs_go L _ _ (fun e he => ⟨(h e he).1.mono (x.trans (Ex.new np)), (h e he).2⟩) fun H2 qs e2 hl hg => ?_
  refine ⟨e2 _ _ upd_same, kvsOf L qs, ?_, ?_, ?_⟩
  · unfold kvsOf
    rw [List.map_map]
    rfl
  · unfold kvsOf
    rw [List.length_map, List.length_zip]
    omega
  · have e3 : Ex H1 (upd H2 p (.dK (mergeK [] (kvsOf L qs)))) := Ex.mut ((Ex.new np).trans e2) np
    refine q p _ np e3 ⟨qs, upd_same, hl, fun i a e ha he => ?_⟩
    refine (h e (List.mem_of_getElem? he)).2 H2 _ a (fun b o hb nd => ?_) (hg i a e ha he)
    by_cases z : b = p
    · subst z
      rw [e2 _ _ upd_same] at hb
      cases hb
      exact absurd rfl (nd _)
    · rw [upd_ne z]
      exact hb
end
end K28
end
section
namespace K28
open PySem PySem.Spec L2 PyProof.Rows Evl
theorem putK_new {kvs : List (Key × V)} {k : Key} {v : V} (h : k ∉ kvs.map (·.1)) : putK kvs k v = kvs ++ [(k, v)] := by
  unfold putK
  rw [if_neg]
  intro z
  obtain ⟨kv, hm, e⟩ := List.any_eq_true.mp z
  exact h (List.mem_map.mpr ⟨kv, hm, of_decide_eq_true e⟩)
theorem mergeK_app : ∀ (more kvs : List (Key × V)), ((kvs ++ more).map (·.1)).Nodup → mergeK kvs more = kvs ++ more
  | [], kvs, _ => by
    rw [List.append_nil]
    rfl
  | kv :: more, kvs, h => by
    have hn : kv.1 ∉ kvs.map (·.1) := fun z => by
      rw [List.map_append, List.nodup_append] at h
      exact h.2.2 _ z _ (List.mem_map.mpr ⟨kv, List.mem_cons_self, rfl⟩) rfl
    show mergeK (putK kvs kv.1 kv.2) more = _
    rw [putK_new hn, mergeK_app more (kvs ++ [(kv.1, kv.2)]) (by rw [List.append_assoc]; exact h), List.append_assoc]
    rfl
theorem mergeK_nd {kvs : List (Key × V)} (h : (kvs.map (·.1)).Nodup) : mergeK [] kvs = kvs := mergeK_app kvs [] h
theorem valV_at : ∀ {kvs : List (Key × V)} {i : Nat} {k : Key} {v : V}, (kvs.map (·.1)).Nodup → kvs[i]? = some (k, v) → valV kvs k = some v
  | [], i, _, _, _, h => by cases h
  | kv :: kvs, 0, k, v, _, h => by
    cases h
    exact valV_pos rfl
  | kv :: kvs, i + 1, k, v, nd, h => by
    rw [List.map_cons, List.nodup_cons] at nd
    have ne : ¬ kv.1 = k := fun e => nd.1 (e ▸ List.mem_map.mpr ⟨(k, v), List.mem_of_getElem? h, rfl⟩)
    rw [valV_neg ne]
    exact valV_at nd.2 h
theorem valV_no : ∀ {kvs : List (Key × V)} {k : Key}, k ∉ kvs.map (·.1) → valV kvs k = none
  | [], _, _ => rfl
  | kv :: kvs, k, h => by
    have ne : ¬ kv.1 = k := fun e => h (e ▸ List.mem_cons_self)
    rw [valV_neg ne]
    exact valV_no fun z => h (List.mem_cons_of_mem _ z)
theorem kvs_keys (L : List Ent) (qs : List Addr) (h : qs.length = L.length) : (kvsOf L qs).map (·.1) = L.map fun e => (Sum.inr e.key : Key) := by
  unfold kvsOf
  rw [List.map_map]
  have e : (((fun kv : Key × V => kv.1) ∘ fun z : Ent × Addr => ((Sum.inr z.1.key : Key), V.ref z.2)) = (fun e : Ent => (Sum.inr e.key : Key)) ∘ Prod.fst) := rfl
  rw [e, ← List.map_map, List.map_fst_zip (by omega)]
theorem keys_nd {L : List Ent} (h : (L.map (·.key)).Nodup) : (L.map fun e => (Sum.inr e.key : Key)).Nodup := by
  have e : (L.map fun e => (Sum.inr e.key : Key)) = (L.map (·.key)).map (Sum.inr : Str → Key) := by
    rw [List.map_map]
    rfl
  rw [e]
  exact h.map Sum.inr fun a b n z => n (Sum.inr.inj z)
/-- the dict of a display asked for its i-th key | for none of its keys -/
theorem disp_get {L : List Ent} {qs : List Addr} {H : Hp} {p : Addr} {i : Nat} {e : Ent} (hp : H p = some (.dK (mergeK [] (kvsOf L qs)))) (hl : qs.length = L.length) (nd : (L.map (·.key)).Nodup) (he : L[i]? = some e) : ∃ q, qs[i]? = some q ∧ DGet H p (.str e.key) (some (.ref q)) := by
  have hi := (List.getElem?_eq_some_iff.mp he).1
  have hq : qs[i]? = some qs[i] := List.getElem?_eq_getElem (by omega)
  refine ⟨_, hq, ?_⟩
  have k0 : ((kvsOf L qs).map (·.1)).Nodup := by
    rw [kvs_keys L qs hl]
    exact keys_nd nd
  rw [mergeK_nd k0] at hp
  have g := DGet.k (k := .inr e.key) hp
  rw [valV_at (i := i) (v := .ref qs[i]) k0 (by
    unfold kvsOf
    rw [List.getElem?_map, (List.getElem?_zip_eq_some (z := (e, qs[i]))).mpr ⟨he, hq⟩]
    rfl)] at g
  exact g
theorem disp_none {L : List Ent} {qs : List Addr} {H : Hp} {p : Addr} {s : Str} (hp : H p = some (.dK (mergeK [] (kvsOf L qs)))) (hl : qs.length = L.length) (nd : (L.map (·.key)).Nodup) (hs : s ∉ L.map (·.key)) : DGet H p (.str s) none := by
  have k0 : ((kvsOf L qs).map (·.1)).Nodup := by
    rw [kvs_keys L qs hl]
    exact keys_nd nd
  rw [mergeK_nd k0] at hp
  have g := DGet.k (k := .inr s) hp
  rw [valV_no (k := .inr s) (by
    rw [kvs_keys L qs hl]
    intro z
    obtain ⟨e, he, e1⟩ := List.mem_map.mp z
    exact hs (List.mem_map.mpr ⟨e, he, Sum.inr.inj e1⟩))] at g
  exact g
/-! ### the equations -/
def idleP (k x : Nat) : List Eqn := if 2 ≤ k ∧ k ≤ 5 then [([x, x], [x])] else []
def basP (k x y z : Nat) : List Eqn := match k with
  | 0 => []
  | 1 => [([x, y], [y, x])]
  | 2 => [([x, y, x, z, x], [x, y, z, x])]
  | 3 => [([x, y, x], [x, y])]
  | 4 => [([x, y, x], [y, x])]
  | 5 => [([x, y, z], [x, z])]
  | 6 => [([x, y], [x])]
  | 7 => [([x, y], [y])]
  | _ => [([x, x, y], [y]), ([y, x, x], [y])]
theorem bas_idle : ∀ k, k < 9 → ∀ x y z, basP k x y z ++ idleP k x = eqsP k x y z
  | 0, _, _, _, _ => rfl
  | 1, _, _, _, _ => rfl
  | 2, _, _, _, _ => rfl
  | 3, _, _, _, _ => rfl
  | 4, _, _, _, _ => rfl
  | 5, _, _, _, _ => rfl
  | 6, _, _, _, _ => rfl
  | 7, _, _, _, _ => rfl
  | 8, _, _, _, _ => rfl
  | n + 9, h, _, _, _ => absurd h (by omega)
theorem eqs_cat {mk : List V → HO} {H : Hp} {p q r : Addr} {es fs : List Eqn} (hp : EqsAt mk H p es) (hq : EqsAt mk H q fs) : ∃ xs ys : List V, H p = some (.lst xs) ∧ H q = some (.lst ys) ∧ xs.length = es.length ∧ ys.length = fs.length ∧
    ∀ H', Ex H H' → H' r = some (.lst (xs ++ ys)) → EqsAt mk H' r (es ++ fs) := by
  obtain ⟨ts, h1, h2, h3⟩ := hp
  obtain ⟨us, k1, k2, k3⟩ := hq
  refine ⟨_, _, h1, k1, by rw [List.length_map]; exact h2, by rw [List.length_map]; exact k2, fun H' e hr => ⟨ts ++ us, by rw [List.map_append]; exact hr, by rw [List.length_append, List.length_append, h2, k2], fun i t f ht hf => ?_⟩⟩
  by_cases hi : i < ts.length
  · rw [List.getElem?_append_left hi] at ht
    rw [List.getElem?_append_left (by omega)] at hf
    obtain ⟨a, b, g1, g2, g3⟩ := h3 i t f ht hf
    exact ⟨a, b, e _ _ g1, e _ _ g2, e _ _ g3⟩
  · rw [List.getElem?_append_right (by omega)] at ht
    rw [List.getElem?_append_right (by omega)] at hf
    rw [h2] at ht
    obtain ⟨a, b, g1, g2, g3⟩ := k3 _ t f ht hf
    exact ⟨a, b, e _ _ g1, e _ _ g2, e _ _ g3⟩
theorem bas_len (k x y z : Nat) : (basP k x y z).length ≤ 2 := by
  unfold basP
  split <;> simp
theorem idle_len (k x : Nat) : (idleP k x).length ≤ 1 := by
  unfold idleP
  split <;> simp
theorem idle_in : ∀ k, k < 9 → inV (.str (ruleS k)) [.str "middle", .str "first", .str "last", .str "ends"] = decide (2 ≤ k ∧ k ≤ 5)
  | 0, _ => by decide +kernel
  | 1, _ => by decide +kernel
  | 2, _ => by decide +kernel
  | 3, _ => by decide +kernel
  | 4, _ => by decide +kernel
  | 5, _ => by decide +kernel
  | 6, _ => by decide +kernel
  | 7, _ => by decide +kernel
  | 8, _ => by decide +kernel
  | n + 9, h => absurd h (by omega)
section
variable {σ : L2.St} {H : Hp}
theorem v2 {te tf : TE} {x y : Nat} (h1 : Ev te σ H (.int (x : Int))) (h2 : Ev tf σ H (.int (y : Int))) : EvA (tCons te (tCons tf tNil)) σ H (nI [x, y]) := ea_cons h1 (ea_cons h2 ea_nil)
theorem v3 {te tf tg : TE} {x y z : Nat} (h1 : Ev te σ H (.int (x : Int))) (h2 : Ev tf σ H (.int (y : Int))) (h3 : Ev tg σ H (.int (z : Int))) : EvA (tCons te (tCons tf (tCons tg tNil))) σ H (nI [x, y, z]) := ea_cons h1 (v2 h2 h3)
theorem v4 {te tf tg th : TE} {x y z w : Nat} (h1 : Ev te σ H (.int (x : Int))) (h2 : Ev tf σ H (.int (y : Int))) (h3 : Ev tg σ H (.int (z : Int))) (h4 : Ev th σ H (.int (w : Int))) : EvA (tCons te (tCons tf (tCons tg (tCons th tNil)))) σ H (nI [x, y, z, w]) := ea_cons h1 (v3 h2 h3 h4)
theorem v5 {te tf tg th ti : TE} {x y z w u : Nat} (h1 : Ev te σ H (.int (x : Int))) (h2 : Ev tf σ H (.int (y : Int))) (h3 : Ev tg σ H (.int (z : Int))) (h4 : Ev th σ H (.int (w : Int))) (h5 : Ev ti σ H (.int (u : Int))) :
    EvA (tCons te (tCons tf (tCons tg (tCons th (tCons ti tNil))))) σ H (nI [x, y, z, w, u]) := ea_cons h1 (v4 h2 h3 h4 h5)
theorem v1 {te : TE} {x : Nat} (h1 : Ev te σ H (.int (x : Int))) : EvA (tCons te tNil) σ H (nI [x]) := ea_cons h1 ea_nil
theorem gt {ta : TA} {l : List Nat} (h : EvA ta σ H (nI l)) (hl : l.length ≤ 100) : EvG (tTup ta) σ H (IsO (.tup (nI l))) := eg_U (eu_tup h (by rw [nI_len]; omega))
theorem gl {ta : TA} {l : List Nat} (h : EvA ta σ H (nI l)) (hl : l.length ≤ 100) : EvG (tLst ta) σ H (IsO (.lst (nI l))) := eg_L (el_lst h (by rw [nI_len]; omega))
end
abbrev T2 (i j : Nat) : TE := tTup (tCons (tVar i) (tCons (tVar j) tNil))
abbrev T3 (i j k : Nat) : TE := tTup (tCons (tVar i) (tCons (tVar j) (tCons (tVar k) tNil)))
abbrev T1 (i : Nat) : TE := tTup (tCons (tVar i) tNil)
abbrev PP (a b : TE) : TE := tTup (tCons a (tCons b tNil))
abbrev L1 (a : TE) : TE := tLst (tCons a tNil)
def entP (k x y z : Nat) (te : TE) : Ent := ⟨ruleS k, te, fun H p => EqsAt .tup H p (basP k x y z)⟩
def entsP (x y z : Nat) : List Ent := [entP 1 x y z (L1 (PP (T2 1 2) (T2 2 1))),
  entP 2 x y z (L1 (PP (tTup (tCons (tVar 1) (tCons (tVar 2) (tCons (tVar 1) (tCons (tVar 3) (tCons (tVar 1) tNil)))))) (tTup (tCons (tVar 1) (tCons (tVar 2) (tCons (tVar 3) (tCons (tVar 1) tNil))))))),
  entP 3 x y z (L1 (PP (T3 1 2 1) (T2 1 2))), entP 4 x y z (L1 (PP (T3 1 2 1) (T2 2 1))), entP 5 x y z (L1 (PP (T3 1 2 3) (T2 1 3))), entP 6 x y z (L1 (PP (T2 1 2) (T1 1))), entP 7 x y z (L1 (PP (T2 1 2) (T1 2))),
  entP 8 x y z (tLst (tCons (PP (T3 1 1 2) (T1 2)) (tCons (PP (T3 2 1 1) (T1 2)) tNil)))]
theorem entsP_keys (x y z : Nat) : (entsP x y z).map (·.key) = (List.range 8).map fun i => ruleS (i + 1) := rfl
theorem rule_nd : ((List.range 8).map fun i => ruleS (i + 1)).Nodup := by decide +kernel
theorem r_equations_of {P : Program} {K : PySem.W.Frag} {mg : Str → Option Value} (T : Txt P K mg) : ∀ vs H Q E, sp_equations_of K vs H Q E → t_equations_of K (EndsK Q) (L2.start n_equations_of vs) H := by
  rintro vs H Q E ⟨k, x, y, z, rfl, hk, q⟩
  have X : ∀ {H}, Ev (tVar 1) [some (.str (ruleS k)), some (.int (x : Int)), some (.int (y : Int)), some (.int (z : Int)), none, none] H (.int (x : Int)) := ev_var rfl
  have Y : ∀ {H}, Ev (tVar 2) [some (.str (ruleS k)), some (.int (x : Int)), some (.int (y : Int)), some (.int (z : Int)), none, none] H (.int (y : Int)) := ev_var rfl
  have Z : ∀ {H}, Ev (tVar 3) [some (.str (ruleS k)), some (.int (x : Int)), some (.int (y : Int)), some (.int (z : Int)), none, none] H (.int (z : Int)) := ev_var rfl
  have t2 : ∀ {i j : Nat} {a b : Nat} {H}, Ev (tVar i) [some (.str (ruleS k)), some (.int (x : Int)), some (.int (y : Int)), some (.int (z : Int)), none, none] H (.int (a : Int)) → Ev (tVar j) [some (.str (ruleS k)), some (.int (x : Int)), some (.int (y : Int)), some (.int (z : Int)), none, none] H (.int (b : Int)) →
      EvG (T2 i j) [some (.str (ruleS k)), some (.int (x : Int)), some (.int (y : Int)), some (.int (z : Int)), none, none] H (IsO (.tup (nI [a, b]))) := fun h1 h2 => gt (v2 h1 h2) (by show 2 ≤ 100; decide)
  have t3 : ∀ {i j l : Nat} {a b c : Nat} {H}, Ev (tVar i) [some (.str (ruleS k)), some (.int (x : Int)), some (.int (y : Int)), some (.int (z : Int)), none, none] H (.int (a : Int)) → Ev (tVar j) [some (.str (ruleS k)), some (.int (x : Int)), some (.int (y : Int)), some (.int (z : Int)), none, none] H (.int (b : Int)) →
      Ev (tVar l) [some (.str (ruleS k)), some (.int (x : Int)), some (.int (y : Int)), some (.int (z : Int)), none, none] H (.int (c : Int)) →
      EvG (T3 i j l) [some (.str (ruleS k)), some (.int (x : Int)), some (.int (y : Int)), some (.int (z : Int)), none, none] H (IsO (.tup (nI [a, b, c]))) := fun h1 h2 h3 => gt (v3 h1 h2 h3) (by show 3 ≤ 100; decide)
  have t1 : ∀ {i : Nat} {a : Nat} {H}, Ev (tVar i) [some (.str (ruleS k)), some (.int (x : Int)), some (.int (y : Int)), some (.int (z : Int)), none, none] H (.int (a : Int)) →
      EvG (T1 i) [some (.str (ruleS k)), some (.int (x : Int)), some (.int (y : Int)), some (.int (z : Int)), none, none] H (IsO (.tup (nI [a]))) := fun h1 => gt (v1 h1) (by show 1 ≤ 100; decide)
  have all : ∀ e ∈ entsP x y z, EvG e.te [some (.str (ruleS k)), some (.int (x : Int)), some (.int (y : Int)), some (.int (z : Int)), none, none] H e.G ∧ Stays e.G := by
    intro e he
    simp only [entsP, List.mem_cons, List.mem_nil_iff, or_false] at he
    rcases he with rfl | rfl | rfl | rfl | rfl | rfl | rfl | rfl
    · exact ⟨eg_one (eg_pair (t2 X Y) (t2 Y X)), stays_eqs _ _⟩
    · exact ⟨eg_one (eg_pair (gt (v5 X Y X Z X) (by show 5 ≤ 100; decide)) (gt (v4 X Y Z X) (by show 4 ≤ 100; decide))), stays_eqs _ _⟩
    · exact ⟨eg_one (eg_pair (t3 X Y X) (t2 X Y)), stays_eqs _ _⟩
    · exact ⟨eg_one (eg_pair (t3 X Y X) (t2 Y X)), stays_eqs _ _⟩
    · exact ⟨eg_one (eg_pair (t3 X Y Z) (t2 X Z)), stays_eqs _ _⟩
    · exact ⟨eg_one (eg_pair (t2 X Y) (t1 X)), stays_eqs _ _⟩
    · exact ⟨eg_one (eg_pair (t2 X Y) (t1 Y)), stays_eqs _ _⟩
    · exact ⟨eg_two (eg_pair (t3 X X Y) (t1 Y)) (eg_pair (t3 Y X X) (t1 Y)), stays_eqs _ _⟩
  show tSeq (tAsg (tDisp ((entsP x y z).map rowE)) (gName 4)) _ _ _ _
  refine s_asgG (eg_disp (entsP x y z) (by show 8 ≤ 15; decide) all) fun p H1 np e1 g => ?_
  obtain ⟨qs, hp, hl, hg⟩ := g
  refine s_asgG (G := fun H p => EqsAt .tup H p (idleP k x)) (eg_if (b := decide (2 ≤ k ∧ k ≤ 5)) (et_test (ev_is (ev_op (ev_var rfl) ev_c (rv_isT (T.idle H1) rfl rfl)) (by rw [idle_in k hk]))) (fun hb => ?_) (fun hb => ?_)) fun i H2 ni e2 gi => ?_
  · have e : idleP k x = [([x, x], [x])] := if_pos (of_decide_eq_true hb)
    rw [e]
    exact eg_one (eg_pair (gt (v2 (ev_var rfl) (ev_var rfl)) (by show 2 ≤ 100; decide)) (gt (v1 (ev_var rfl)) (by show 1 ≤ 100; decide)))
  · have e : idleP k x = [] := if_neg (of_decide_eq_false hb)
    rw [e]
    exact eg_nil
  refine ⟨.ref p, rfl, p, rfl, .inl ⟨_, .inl (e2 _ _ hp)⟩, .str (ruleS k), rfl, Nat.zero_le _, fun n nn => ?_⟩
  have e3 : Ex H2 (upd H2 n (.lst [])) := Ex.new nn
  have nd : ((entsP x y z).map (·.key)).Nodup := by
    rw [entsP_keys]
    exact rule_nd
  have fin : ∀ (b : Addr), EqsAt .tup (upd H2 n (.lst [])) b (basP k x y z) → (tVar 5) [some (.str (ruleS k)), some (.int (x : Int)), some (.int (y : Int)), some (.int (z : Int)), some (.ref p), some (.ref i)] (upd H2 n (.lst [])) fun v H3 => rCat (.ref b) v H3 Q := fun b hb => by
    obtain ⟨xs, ys, h1, h2, h3, h4, h5⟩ := eqs_cat (r := 0) hb ((stays_eqs .tup (idleP k x)) _ _ i (noD_of e3) gi)
    refine ⟨.ref i, rfl, b, i, xs, ys, rfl, rfl, h1, h2, ?_, fun r nr => ?_⟩
    · have := bas_len k x y z
      have := idle_len k x
      rw [sizeLine_eq]
      omega
    · obtain ⟨xs', ys', k1, k2, k3, k4, k5⟩ := eqs_cat (r := r) hb ((stays_eqs .tup (idleP k x)) _ _ i (noD_of e3) gi)
      rw [h1] at k1
      rw [h2] at k2
      cases k1
      cases k2
      have g := k5 _ (Ex.new nr) upd_same
      rw [bas_idle k hk] at g
      exact q _ r (((e1.trans e2).trans e3).trans (Ex.new nr)) (fresh_back ((e1.trans e2).trans e3) nr) g
  by_cases h0 : k = 0
  · subst h0
    refine ⟨none, disp_none (e3 _ _ (e2 _ _ hp)) hl nd (by rw [entsP_keys]; decide +kernel), fin n ⟨[], upd_same, rfl, fun i t e ht _ => by cases ht⟩⟩
  · have hi : (entsP x y z)[k - 1]? = some ((entsP x y z)[k - 1]'(by show k - 1 < 8; omega)) := List.getElem?_eq_getElem _
    obtain ⟨b, hb, gd⟩ := disp_get (i := k - 1) (e3 _ _ (e2 _ _ hp)) hl nd hi
    have ek : ((entsP x y z)[k - 1]'(by show k - 1 < 8; omega)).key = ruleS k ∧ ((entsP x y z)[k - 1]'(by show k - 1 < 8; omega)).G = fun H p => EqsAt .tup H p (basP k x y z) := by
      match k, h0, hk with
      | 1, _, _ => exact ⟨rfl, rfl⟩
      | 2, _, _ => exact ⟨rfl, rfl⟩
      | 3, _, _ => exact ⟨rfl, rfl⟩
      | 4, _, _ => exact ⟨rfl, rfl⟩
      | 5, _, _ => exact ⟨rfl, rfl⟩
      | 6, _, _ => exact ⟨rfl, rfl⟩
      | 7, _, _ => exact ⟨rfl, rfl⟩
      | 8, _, _ => exact ⟨rfl, rfl⟩
      | 0, h, _ => exact absurd rfl h
      | n + 9, _, h => exact absurd h (by omega)
    rw [ek.1] at gd
    have gb := hg (k - 1) b _ hb hi
    rw [ek.2] at gb
    exact ⟨_, gd, fin b (stays_eqs .tup _ _ _ b (noD_of (e2.trans e3)) gb)⟩
end K28
end
section
namespace K28
open PySem PySem.Spec L2 PyProof.Rows Evl
theorem rule_inj : ∀ k, k < 9 → ∀ j, j < 9 → ruleS k = ruleS j → k = j := by decide +kernel
theorem rule_eq {k j : Nat} (hk : k < 9) (hj : j < 9) : decide (V.str (ruleS k) = V.str (ruleS j)) = decide (k = j) := by
  by_cases h : k = j
  · subst h
    rw [decide_eq_true rfl, decide_eq_true rfl]
  · rw [decide_eq_false h, decide_eq_false]
    intro z
    exact h (rule_inj k hk j hj (V.str.inj z))
abbrev W2 (i j : Nat) : TE := tLst (tCons (tVar i) (tCons (tVar j) tNil))
abbrev W3 (i j k : Nat) : TE := tLst (tCons (tVar i) (tCons (tVar j) (tCons (tVar k) tNil)))
abbrev W1 (i : Nat) : TE := tLst (tCons (tVar i) tNil)
/-- the pair that stands in the law's dict, or its default -/
def sideL (k x y z : Nat) : Eqn := match k with
  | 2 => ([x, y, x, z, x], [x, y, z, x])
  | 3 => ([x, y, x], [x, y])
  | 4 => ([x, y, x], [y, x])
  | _ => ([x, y, z], [x, z])
def entL (k x y z : Nat) (te : TE) : Ent := ⟨ruleS k, te, PairAt .lst (sideL k x y z)⟩
def entsL (x y z : Nat) : List Ent := [
  entL 2 x y z (PP (tLst (tCons (tVar 1) (tCons (tVar 2) (tCons (tVar 1) (tCons (tVar 3) (tCons (tVar 1) tNil)))))) (tLst (tCons (tVar 1) (tCons (tVar 2) (tCons (tVar 3) (tCons (tVar 1) tNil)))))),
  entL 3 x y z (PP (W3 1 2 1) (W2 1 2)), entL 4 x y z (PP (W3 1 2 1) (W2 2 1))]
theorem rule_nd3 : ([ruleS 2, ruleS 3, ruleS 4] : List Str).Nodup := by decide +kernel
theorem no_key5 : ruleS 5 ∉ ([ruleS 2, ruleS 3, ruleS 4] : List Str) := by decide +kernel
def EvN (te : TE) (σ : L2.St) (H : Hp) (G : Hp → Addr → Prop) : Prop := ∀ H1, Ex H H1 → ∀ Q : VK, (∀ p H2, Ex H1 H2 → G H2 p → Q (.ref p) H2) → te σ H1 Q
theorem eg_twoN {σ : L2.St} {H : Hp} {ta tb : TE} {mk : List V → HO} [NotD mk] {e f : Eqn} (ha : EvG ta σ H (PairAt mk e)) (hb : EvN tb σ H (PairAt mk f)) : EvG (tLst (tCons ta (tCons tb tNil))) σ H fun H p => EqsAt mk H p [e, f] := fun H1 x Q q =>
  ha H1 x _ fun a H2 na e2 h2 => hb H2 (x.trans e2) _ fun b H3 e3 h3 => ⟨by show 2 ≤ sizeLine; rw [sizeLine_eq]; decide, fun p hp => q p _ (fresh_back (e2.trans e3) hp) ((e2.trans e3).trans (Ex.new hp)) ⟨[a, b], upd_same, rfl, fun i t e' ht he => by
    match i with
    | 0 =>
      cases ht
      cases he
      exact stays_pair mk e _ _ a (noD_of (e3.trans (Ex.new hp))) h2
    | 1 =>
      cases ht
      cases he
      exact stays_pair mk f _ _ b (noD_of (Ex.new hp)) h3
    | i + 2 => cases ht⟩⟩
theorem r_law_equal_sides {K : PySem.W.Frag} : ∀ vs H Q E, sp_law_equal_sides K vs H Q E → t_law_equal_sides K (EndsK Q) (L2.start n_law_equal_sides vs) H := by
  rintro vs H Q E ⟨k, x, y, z, rfl, hk, q⟩
  have X : ∀ {H}, Ev (tVar 1) [some (.str (ruleS k)), some (.int (x : Int)), some (.int (y : Int)), some (.int (z : Int)), none] H (.int (x : Int)) := ev_var rfl
  have Y : ∀ {H}, Ev (tVar 2) [some (.str (ruleS k)), some (.int (x : Int)), some (.int (y : Int)), some (.int (z : Int)), none] H (.int (y : Int)) := ev_var rfl
  have Z : ∀ {H}, Ev (tVar 3) [some (.str (ruleS k)), some (.int (x : Int)), some (.int (y : Int)), some (.int (z : Int)), none] H (.int (z : Int)) := ev_var rfl
  have ask : ∀ (j : Nat) (H : Hp), j < 9 → EvT (tTest (tOp rEq (tVar 0) (tC (.str (ruleS j))))) [some (.str (ruleS k)), some (.int (x : Int)), some (.int (y : Int)), some (.int (z : Int)), none] H (decide (k = j)) := fun j H hj =>
    et_is (et_eq (ev_var rfl) ev_c rfl) (rule_eq hk hj)
  refine q_when (ask 1 H (by decide)) (fun h1 H1 e1 => ?_) (fun h1 H1 e1 => ?_)
  · refine s_retG (eg_one (mk := .lst) (e := ([x, y], [y, x])) (eg_pair (gl (v2 X Y) (by show 2 ≤ 100; decide)) (gl (v2 Y X) (by show 2 ≤ 100; decide)))) fun p H2 np e2 g => q _ p (e1.trans e2) (fresh_back e1 np) ?_
    obtain rfl : k = 1 := of_decide_eq_true h1
    exact g
  refine q_when (et_or (ask 6 H1 (by decide)) fun _ => ask 7 H1 (by decide)) (fun h2 H2 e2 => ?_) (fun h2 H2 e2 => ?_)
  · have hh : k = 6 ∨ k = 7 := by
      rcases Bool.or_eq_true_iff.mp h2 with h | h
      · exact .inl (of_decide_eq_true h)
      · exact .inr (of_decide_eq_true h)
    have last : Ev (tIf (tTest (tOp rEq (tVar 0) (tC (.str "keep")))) (tVar 1) (tVar 2)) [some (.str (ruleS k)), some (.int (x : Int)), some (.int (y : Int)), some (.int (z : Int)), none] H2 (.int ((if k = 6 then x else y : Nat) : Int)) := by
      refine ev_if (ask 6 H2 (by decide)) (fun h => ?_) (fun h => ?_)
      · rw [if_pos (of_decide_eq_true h)]
        exact X
      · rw [if_neg (of_decide_eq_false h)]
        exact Y
    refine s_retG (eg_one (mk := .lst) (e := ([x, y], [if k = 6 then x else y])) (eg_pair (gl (v2 X Y) (by show 2 ≤ 100; decide)) (gl (v1 last) (by show 1 ≤ 100; decide)))) fun p H3 np e3 g => q _ p ((e1.trans e2).trans e3) (fresh_back (e1.trans e2) np) ?_
    rcases hh with rfl | rfl
    · exact g
    · exact g
  refine q_when (ask 8 H2 (by decide)) (fun h3 H3 e3 => ?_) (fun h3 H3 e3 => ?_)
  · refine s_retG (eg_two (mk := .lst) (e := ([x, x, y], [y])) (f := ([y, x, x], [y])) (eg_pair (gl (v3 X X Y) (by show 3 ≤ 100; decide)) (gl (v1 Y) (by show 1 ≤ 100; decide))) (eg_pair (gl (v3 Y X X) (by show 3 ≤ 100; decide)) (gl (v1 Y) (by show 1 ≤ 100; decide))))
      fun p H4 np e4 g => q _ p (((e1.trans e2).trans e3).trans e4) (fresh_back ((e1.trans e2).trans e3) np) ?_
    obtain rfl : k = 8 := of_decide_eq_true h3
    exact g
  refine q_when (ask 0 H3 (by decide)) (fun h4 H4 e4 => ?_) (fun h4 H4 e4 => ?_)
  · refine s_retG (eg_nil (mk := .lst)) fun p H5 np e5 g => q _ p ((((e1.trans e2).trans e3).trans e4).trans e5) (fresh_back (((e1.trans e2).trans e3).trans e4) np) ?_
    obtain rfl : k = 0 := of_decide_eq_true h4
    exact g
  have e14 := ((e1.trans e2).trans e3).trans e4
  have n1 : k ≠ 1 := of_decide_eq_false h1
  have n8 : k ≠ 8 := of_decide_eq_false h3
  have n0 : k ≠ 0 := of_decide_eq_false h4
  have n67 : k ≠ 6 ∧ k ≠ 7 := by
    obtain ⟨a, b⟩ := Bool.or_eq_false_iff.mp h2
    exact ⟨of_decide_eq_false a, of_decide_eq_false b⟩
  have hk2 : 2 ≤ k ∧ k ≤ 5 := ⟨by omega, by omega⟩
  have all : ∀ e ∈ entsL x y z, EvG e.te [some (.str (ruleS k)), some (.int (x : Int)), some (.int (y : Int)), some (.int (z : Int)), none] H4 e.G ∧ Stays e.G := by
    intro e he
    simp only [entsL, List.mem_cons, List.mem_nil_iff, or_false] at he
    rcases he with rfl | rfl | rfl
    · exact ⟨eg_pair (gl (v5 X Y X Z X) (by show 5 ≤ 100; decide)) (gl (v4 X Y Z X) (by show 4 ≤ 100; decide)), stays_pair _ _⟩
    · exact ⟨eg_pair (gl (v3 X Y X) (by show 3 ≤ 100; decide)) (gl (v2 X Y) (by show 2 ≤ 100; decide)), stays_pair _ _⟩
    · exact ⟨eg_pair (gl (v3 X Y X) (by show 3 ≤ 100; decide)) (gl (v2 Y X) (by show 2 ≤ 100; decide)), stays_pair _ _⟩
  show tSeq (tAsg (tDisp ((entsL x y z).map rowE)) (gName 4)) _ _ _ _
  refine s_asgG (eg_disp (entsL x y z) (by show 3 ≤ 15; decide) all) fun p H5 np e5 g => ?_
  obtain ⟨qs, hp, hl, hg⟩ := g
  have ekeys : (entsL x y z).map (·.key) = [ruleS 2, ruleS 3, ruleS 4] := rfl
  have nd : ((entsL x y z).map (·.key)).Nodup := by
    rw [ekeys]
    exact rule_nd3
  refine s_retG (G := fun H r => EqsAt .lst H r (eqsL k x y z)) ?_ fun r H6 nr e6 g => q _ r ((e14.trans e5).trans e6) (fresh_back (e14.trans e5) nr) g
  have side : EvN (tDGet2 (tVar 4) (tVar 0) (PP (W3 1 2 3) (W2 1 3))) [some (.str (ruleS k)), some (.int (x : Int)), some (.int (y : Int)), some (.int (z : Int)), some (.ref p)] H5 fun H a => PairAt .lst (sideL k x y z) H a := by
    intro J1 f1 Q1 q1
    refine ⟨.ref p, rfl, p, rfl, .inl ⟨_, .inl (f1 _ _ hp)⟩, .str (ruleS k), rfl, ?_⟩
    have dflt : EvG (PP (W3 1 2 3) (W2 1 3)) [some (.str (ruleS k)), some (.int (x : Int)), some (.int (y : Int)), some (.int (z : Int)), some (.ref p)] H5 (PairAt .lst ([x, y, z], [x, z])) :=
      eg_pair (gl (v3 (ev_var rfl) (ev_var rfl) (ev_var rfl)) (by show 3 ≤ 100; decide)) (gl (v2 (ev_var rfl) (ev_var rfl)) (by show 2 ≤ 100; decide))
    refine dflt J1 f1 _ fun a J2 na f2 ga => ?_
    by_cases h5 : k = 5
    · subst h5
      exact ⟨none, disp_none ((f1.trans f2) _ _ hp) hl nd (by rw [ekeys]; exact no_key5), q1 a J2 f2 ga⟩
    · have hi : ∃ e, (entsL x y z)[k - 2]? = some e ∧ e.key = ruleS k ∧ e.G = PairAt .lst (sideL k x y z) := by
        clear f2 ga q1 Q1 all
        match k, hk2, h5 with
        | 2, _, _ => exact ⟨_, rfl, rfl, rfl⟩
        | 3, _, _ => exact ⟨_, rfl, rfl, rfl⟩
        | 4, _, _ => exact ⟨_, rfl, rfl, rfl⟩
        | 5, _, h => exact absurd rfl h
        | 0, h, _ => exact absurd h.1 (by decide)
        | 1, h, _ => exact absurd h.1 (by decide)
        | n + 6, h, _ => exact absurd h.2 (by omega)
      obtain ⟨ent, hi, ek1, ek2⟩ := hi
      obtain ⟨b, hb, gd⟩ := disp_get (i := k - 2) ((f1.trans f2) _ _ hp) hl nd hi
      rw [ek1] at gd
      have gb := hg (k - 2) b _ hb hi
      rw [ek2] at gb
      exact ⟨_, gd, q1 b J2 f2 (stays_pair .lst _ _ _ b (noD_of (f1.trans f2)) gb)⟩
  have two : EvG (tLst (tCons (PP (W2 1 1) (W1 1)) (tCons (tDGet2 (tVar 4) (tVar 0) (PP (W3 1 2 3) (W2 1 3))) tNil))) [some (.str (ruleS k)), some (.int (x : Int)), some (.int (y : Int)), some (.int (z : Int)), some (.ref p)] H5 fun H r => EqsAt .lst H r [([x, x], [x]), sideL k x y z] :=
    eg_twoN (eg_pair (gl (v2 (ev_var rfl) (ev_var rfl)) (by show 2 ≤ 100; decide)) (gl (v1 (ev_var rfl)) (by show 1 ≤ 100; decide))) side
  have ee : eqsL k x y z = [([x, x], [x]), sideL k x y z] := by
    match k, hk2 with
    | 2, _ => rfl
    | 3, _ => rfl
    | 4, _ => rfl
    | 5, _ => rfl
    | 0, h => exact absurd h.1 (by decide)
    | 1, h => exact absurd h.1 (by decide)
    | n + 6, h => exact absurd h.2 (by omega)
  rw [ee]
  exact two
end K28
end
section
namespace K28
open PySem PySem.Spec L2 PyProof.Rows Evl
section
variable {K : PySem.W.Frag} {σ : L2.St} {H : Hp} {te : TE} {ta : TA} {G : Hp → Addr → Prop} {D : Ends} {g : TG} {tu tz : TS}
theorem eg_call {sp : Sp} {vs : List V} (h : EvA ta σ H vs) (hs : ∀ H1, Ex H H1 → ∀ Q : VK, (∀ p H2, H1 p = none → Ex H1 H2 → G H2 p → Q (.ref p) H2) → sp vs H1 Q E0) : EvG (tCall sp [] E0 ta) σ H G := fun H1 e Q q =>
  h H1 e _ fun H2 e2 => by
    show sp (vs ++ []) H2 Q E0
    rw [List.append_nil]
    exact hs H2 (e.trans e2) Q fun p H3 np e3 g => q p H3 (fresh_back e2 np) (e2.trans e3) g
/-- a loop over the list that G tells -/
theorem q_forG (h : EvG te σ H G) (k : ∀ p H1, H p = none → Ex H H1 → G H1 p → ∃ xs : List V, H1 p = some (.lst xs) ∧ ∃ Pv : Nat → L2.St → Hp → Prop, Pv 0 σ H1 ∧ (∀ i σ' H', i ≤ xs.length → Pv i σ' H' → H' p = some (.lst xs)) ∧
    (∀ i x σ' H', xs[i]? = some x → Pv i σ' H' → g x σ' H' fun σ2 H2 => tu { D with nx := Pv (i + 1), ct := Pv (i + 1), bk := tz D } σ2 H2) ∧ ∀ σ' H', Pv xs.length σ' H' → tz D σ' H') : tSeq (tFor (iList K te) g tu) tz D σ H :=
  h H (Ex.refl H) _ fun p H1 np e g => by
    obtain ⟨xs, hp, Pv, h0, hl, hs, hd⟩ := k p H1 np e g
    exact ⟨p, rfl, ⟨xs, sq_of hp⟩, for_list Pv h0 (fun i σ' H' hi pv => sq_of (hl i σ' H' hi pv)) hs hd⟩
end
theorem notT {b : Bool} (h : (!b) = true) : b = false := by
  cases b <;> simp_all
theorem notF {b : Bool} (h : (!b) = false) : b = true := by
  cases b <;> simp_all
theorem grouped_in : ∀ k, k < 9 → inV (.str (ruleS k)) [.str "grouping", .str "middle", .str "first", .str "last", .str "ends", .str "vanish"] = grouped k
  | 0, _ => by decide +kernel
  | 1, _ => by decide +kernel
  | 2, _ => by decide +kernel
  | 3, _ => by decide +kernel
  | 4, _ => by decide +kernel
  | 5, _ => by decide +kernel
  | 6, _ => by decide +kernel
  | 7, _ => by decide +kernel
  | 8, _ => by decide +kernel
  | n + 9, h => absurd h (by omega)
theorem plain_in : ∀ k, k < 9 → (!inV (.str (ruleS k)) [.str "order", .str "keep", .str "take"]) = grouped k
  | 0, _ => by decide +kernel
  | 1, _ => by decide +kernel
  | 2, _ => by decide +kernel
  | 3, _ => by decide +kernel
  | 4, _ => by decide +kernel
  | 5, _ => by decide +kernel
  | 6, _ => by decide +kernel
  | 7, _ => by decide +kernel
  | 8, _ => by decide +kernel
  | n + 9, h => absurd h (by omega)
theorem int_ne (x y : Nat) : (!decide (V.int (x : Int) = V.int (y : Int))) = !(x == y) := by
  by_cases h : x = y
  · subst h
    simp
  · have e : ¬ V.int (x : Int) = V.int (y : Int) := fun z => h (by cases z; rfl)
    rw [decide_eq_false e, beq_eq_false_iff_ne.mpr h]
theorem eqs_inL (k x y z : Nat) : ∀ q ∈ eqsL k x y z, (q.1 ≠ [] ∧ q.1.length ≤ 10 ∧ ∀ w ∈ q.1, w = x ∨ w = y ∨ w = z) ∧ (q.2 ≠ [] ∧ q.2.length ≤ 10 ∧ ∀ w ∈ q.2, w = x ∨ w = y ∨ w = z) := by
  match k with
  | 0 => intro q h; cases h
  | 1 => simp only [eqsL]; intro q h; simp at h; subst h; simp
  | 2 => simp only [eqsL]; intro q h; simp at h; rcases h with h | h <;> subst h <;> simp <;> omega
  | 3 => simp only [eqsL]; intro q h; simp at h; rcases h with h | h <;> subst h <;> simp <;> omega
  | 4 => simp only [eqsL]; intro q h; simp at h; rcases h with h | h <;> subst h <;> simp <;> omega
  | 5 => simp only [eqsL]; intro q h; simp at h; rcases h with h | h <;> subst h <;> simp <;> omega
  | 6 => simp only [eqsL]; intro q h; simp at h; subst h; simp
  | 7 => simp only [eqsL]; intro q h; simp at h; subst h; simp
  | _ + 8 => simp only [eqsL]; intro q h; simp at h; rcases h with h | h <;> subst h <;> simp
theorem eqs_len (k x y z : Nat) : ∀ q ∈ eqsP k x y z, q.1.length ≤ 10 ∧ q.2.length ≤ 10 := by
  match k with
  | 0 => intro q h; cases h
  | 1 => simp only [eqsP]; intro q h; simp at h; subst h; simp
  | 2 => simp only [eqsP]; intro q h; simp at h; rcases h with h | h <;> subst h <;> simp
  | 3 => simp only [eqsP]; intro q h; simp at h; rcases h with h | h <;> subst h <;> simp
  | 4 => simp only [eqsP]; intro q h; simp at h; rcases h with h | h <;> subst h <;> simp
  | 5 => simp only [eqsP]; intro q h; simp at h; rcases h with h | h <;> subst h <;> simp
  | 6 => simp only [eqsP]; intro q h; simp at h; subst h; simp
  | 7 => simp only [eqsP]; intro q h; simp at h; subst h; simp
  | _ + 8 => simp only [eqsP]; intro q h; simp at h; rcases h with h | h <;> subst h <;> simp
theorem eqHolds_ne (op : Nat → Nat → Nat) (e : Eqn) : (!(putRow op e.1 == putRow op e.2)) = !eqHolds op e := rfl
section
variable {K : PySem.W.Frag} {H : Hp} {r : Addr} {as : List Addr} {R : List (List Nat)} {n k x y z : Nat}
/-- the common walk: mk, eqs, put differ -/
theorem holds_walk {mk : List V → HO} [NotD mk] {te tl tr : TE} {t1 : TT} {es : List Eqn} {Q : VK} {σ0 : L2.St} (hσ : σ0.length = 5) (ht : EvT t1 (σ0 ++ [none, none]) H (grouped k && !assocB (opOf R) x y z)) (he : ∀ H1, Ex H H1 → EvG te (σ0 ++ [none, none]) H1 fun H p => EqsAt mk H p es)
    (hput : ∀ (a b : Addr) (e : Eqn) H1, Ex H H1 → e ∈ es → H1 a = some (mk (nI e.1)) → H1 b = some (mk (nI e.2)) → EvT (tTest (tOp rNe tl tr)) (σ0 ++ [some (.ref a), some (.ref b)]) H1 (!eqHolds (opOf R) e))
    (q : ∀ H', Ex H H' → Q (.bl ((!grouped k || assocB (opOf R) x y z) && es.all (eqHolds (opOf R)))) H') :
    tSeq (tIfS t1 (tRet (tC (.bl false))) tNext) (tSeq (tFor (iList K te) (gTup K 2 (gCons (gName 5) (gCons (gName 6) gNil))) (tIfS (tTest (tOp rNe tl tr)) (tRet (tC (.bl false))) tNext)) (tRet (tC (.bl true)))) (EndsK Q) (σ0 ++ [none, none]) H := by
  obtain ⟨a0, a1, a2, a3, a4, rfl⟩ : ∃ a0 a1 a2 a3 a4, σ0 = [a0, a1, a2, a3, a4] := by
    match σ0, hσ with
    | [a0, a1, a2, a3, a4], _ => exact ⟨_, _, _, _, _, rfl⟩
  refine q_when ht (fun hb H1 e1 => ?_) (fun hb H1 e1 => ?_)
  · refine s_ret ev_c fun H2 e2 => ?_
    have g := q H2 (e1.trans e2)
    obtain ⟨h1, h2⟩ := Bool.and_eq_true_iff.mp hb
    rw [h1, notT h2] at g
    exact g
  have first : (!grouped k || assocB (opOf R) x y z) = true := by
    cases hg : grouped k with
    | false => rfl
    | true =>
      rw [hg] at hb
      cases ha : assocB (opOf R) x y z with
      | true => rfl
      | false =>
        rw [ha] at hb
        cases hb
  refine q_forG (he H1 e1) fun p H2 np e2 g => ?_
  obtain ⟨ts, hp, hl, hts⟩ := g
  refine ⟨ts.map V.ref, hp, fun i σ' H' => Ex H2 H' ∧ (es.take i).all (eqHolds (opOf R)) = true ∧ ∃ u w : Option V, σ' = [a0, a1, a2, a3, a4] ++ [u, w], ⟨Ex.refl _, rfl, none, none, rfl⟩, fun i σ' H' _ pv => pv.1 _ _ hp, fun i v σ' H' hv pv => ?_, fun σ' H' pv => ?_⟩
  · obtain ⟨e3, hall, u, w, rfl⟩ := pv
    rw [List.getElem?_map] at hv
    cases ht' : ts[i]? with
    | none =>
      rw [ht'] at hv
      cases hv
    | some t =>
      rw [ht'] at hv
      cases hv
      have hi : i < es.length := by
        rw [← hl]
        exact (List.getElem?_eq_some_iff.mp ht').1
      have hei : es[i]? = some es[i] := List.getElem?_eq_getElem hi
      obtain ⟨a, b, h1, h2, h3⟩ := hts i t _ ht' hei
      refine ⟨t, [.ref a, .ref b], rfl, st_of (e3 _ _ h1), rfl, .ref a, [.ref b], rfl, .ref b, [], rfl, rfl, ?_⟩
      refine s_when (hput a b es[i] H' ((e1.trans e2).trans e3) (List.getElem_mem hi) (e3 _ _ h2) (e3 _ _ h3)) (fun hb H3 e4 => ?_) (fun hb H3 e4 => ?_)
      · refine s_ret ev_c fun H4 e5 => ?_
        have g := q H4 ((((e1.trans e2).trans e3).trans e4).trans e5)
        have bad : es.all (eqHolds (opOf R)) = false := by
          rw [List.all_eq_false]
          exact ⟨es[i], List.getElem_mem hi, by rw [notT hb]; decide⟩
        rw [bad, Bool.and_false] at g
        exact g
      · refine ⟨e3.trans e4, ?_, some (.ref a), some (.ref b), rfl⟩
        rw [take_succ_at hei, List.all_append, hall]
        have hb2 : eqHolds (opOf R) es[i] = true := notF hb
        show (true && (eqHolds (opOf R) es[i] && true)) = true
        rw [hb2]
        rfl
  · obtain ⟨e3, hall, u, w, rfl⟩ := pv
    rw [List.length_map, hl, List.take_length] at hall
    refine s_ret ev_c fun H3 e4 => ?_
    have g := q H3 (((e1.trans e2).trans e3).trans e4)
    rw [first, hall] at g
    exact g
end
theorem r_holds_for {P : Program} {K : PySem.W.Frag} {mg : Str → Option Value} (T : Txt P K mg) : ∀ vs H Q E, sp_holds_for K vs H Q E → t_holds_for K (EndsK Q) (L2.start n_holds_for vs) H := by
  rintro vs H Q E ⟨r, as, R, n, k, x, y, z, rfl, hk, hx, hy, hz, hr, ok, q⟩
  refine holds_walk (mk := .tup) (k := k) (x := x) (y := y) (z := z) (R := R) (es := eqsP k x y z) (σ0 := [some (.ref r), some (.str (ruleS k)), some (.int (x : Int)), some (.int (y : Int)), some (.int (z : Int))]) rfl ?_ (fun H1 e1 => ?_) (fun a b e H1 e1 he ha hb => ?_) (fun H' e => ?_)
  · refine et_and (et_test (ev_is (ev_op (ev_var rfl) ev_c (rv_isT (T.grouped H) rfl rfl)) (by rw [grouped_in k hk]))) fun _ => ?_
    refine et_is (et_ne (x := .int (opOf R (opOf R x y) z : Nat)) (y := .int (opOf R x (opOf R y z) : Nat)) ?_ ?_ rfl) (int_ne _ _)
    · exact ev_cell hr ok (ok.lt hx hy) hz (ev_var rfl) (ev_cell hr ok hx hy (ev_var rfl) (ev_var rfl) (ev_var rfl)) (ev_var rfl)
    · exact ev_cell hr ok hx (ok.lt hy hz) (ev_var rfl) (ev_var rfl) (ev_cell hr ok hy hz (ev_var rfl) (ev_var rfl) (ev_var rfl))
  · exact eg_call (ea_cons (ev_var rfl) (ea_cons (ev_var rfl) (ea_cons (ev_var rfl) (ea_cons (ev_var rfl) ea_nil)))) fun H2 e2 Q2 q2 => ⟨k, x, y, z, rfl, hk, fun H' p e hp g => q2 p H' hp e g⟩
  · obtain ⟨⟨n1, m1⟩, n2, m2⟩ := eqs_in k x y z e he
    obtain ⟨l1, l2⟩ := eqs_len k x y z e he
    have low : ∀ w, (w = x ∨ w = y ∨ w = z) → w < n := fun w h => by rcases h with h | h | h <;> omega
    refine et_is (et_ne (x := .int (putRow (opOf R) e.1 : Nat)) (y := .int (putRow (opOf R) e.2 : Nat)) ?_ ?_ rfl) (int_ne _ _)
    · exact ev_callV (ea_cons (ev_var rfl) (ea_cons (ev_var rfl) ea_nil)) fun H2 e2 Q2 q2 => ⟨r, a, as, R, n, e.1, rfl, hr.ex (e1.trans e2), ok, st_of (e2 _ _ ha), n1, l1, fun w hw => low w (m1 w hw), q2⟩
    · exact ev_callV (ea_cons (ev_var rfl) (ea_cons (ev_var rfl) ea_nil)) fun H2 e2 Q2 q2 => ⟨r, b, as, R, n, e.2, rfl, hr.ex (e1.trans e2), ok, st_of (e2 _ _ hb), n2, l2, fun w hw => low w (m2 w hw), q2⟩
  · exact q H' e
theorem r_law_triple_holds {K : PySem.W.Frag} : ∀ vs H Q E, sp_law_triple_holds K vs H Q E → t_law_triple_holds K (EndsK Q) (L2.start n_law_triple_holds vs) H := by
  rintro vs H Q E ⟨r, as, R, n, k, x, y, z, rfl, hk, hx, hy, hz, hr, ok, q⟩
  refine holds_walk (mk := .lst) (k := k) (x := x) (y := y) (z := z) (R := R) (es := eqsL k x y z) (σ0 := [some (.ref r), some (.str (ruleS k)), some (.int (x : Int)), some (.int (y : Int)), some (.int (z : Int))]) rfl ?_ (fun H1 e1 => ?_) (fun a b e H1 e1 he ha hb => ?_) (fun H' e => ?_)
  · refine et_and (et_test (ev_is (ev_niU (ev_var rfl) (eu_tup (ea_cons ev_c (ea_cons ev_c (ea_cons ev_c ea_nil))) (by show 3 ≤ 100000; decide)) rfl rfl) (by rw [plain_in k hk]))) fun _ => ?_
    refine et_is (et_ne (x := .int (opOf R (opOf R x y) z : Nat)) (y := .int (opOf R x (opOf R y z) : Nat)) ?_ ?_ rfl) (int_ne _ _)
    · exact ev_cell hr ok (ok.lt hx hy) hz (ev_var rfl) (ev_cell hr ok hx hy (ev_var rfl) (ev_var rfl) (ev_var rfl)) (ev_var rfl)
    · exact ev_cell hr ok hx (ok.lt hy hz) (ev_var rfl) (ev_var rfl) (ev_cell hr ok hy hz (ev_var rfl) (ev_var rfl) (ev_var rfl))
  · exact eg_call (ea_cons (ev_var rfl) (ea_cons (ev_var rfl) (ea_cons (ev_var rfl) (ea_cons (ev_var rfl) ea_nil)))) fun H2 e2 Q2 q2 => ⟨k, x, y, z, rfl, hk, fun H' p e hp g => q2 p H' hp e g⟩
  · obtain ⟨⟨n1, l1, m1⟩, n2, l2, m2⟩ := eqs_inL k x y z e he
    have low : ∀ w, (w = x ∨ w = y ∨ w = z) → w < n := fun w h => by rcases h with h | h | h <;> omega
    refine et_is (et_ne (x := .int (putRow (opOf R) e.1 : Nat)) (y := .int (putRow (opOf R) e.2 : Nat)) ?_ ?_ rfl) (int_ne _ _)
    · exact ev_callV (ea_cons (ev_var rfl) (ea_cons (ev_var rfl) ea_nil)) fun H2 e2 Q2 q2 => ⟨r, a, as, R, n, e.1, rfl, hr.ex (e1.trans e2), ok, e2 _ _ ha, n1, l1, fun w hw => low w (m1 w hw), q2⟩
    · exact ev_callV (ea_cons (ev_var rfl) (ea_cons (ev_var rfl) ea_nil)) fun H2 e2 Q2 q2 => ⟨r, b, as, R, n, e.2, rfl, hr.ex (e1.trans e2), ok, e2 _ _ hb, n2, l2, fun w hw => low w (m2 w hw), q2⟩
  · exact q H' e
end K28
end
section
namespace K28
open PySem PySem.Spec L2 PyProof.Rows Evl
theorem breaks_walk {H : Hp} {n : Nat} {hold : Nat → Nat → Nat → Bool} {a0 a1 : Option V} {ta1 ta2 ta3 : TA} {tt : TT} {Q : VK} (hn : n ≤ 1000) (h1 : ∀ u v w H1, Ex H H1 → EvA ta1 [a0, a1, u, v, w] H1 [.int (n : Int)]) (h2 : ∀ u v w H1, Ex H H1 → EvA ta2 [a0, a1, u, v, w] H1 [.int (n : Int)])
    (h3 : ∀ u v w H1, Ex H H1 → EvA ta3 [a0, a1, u, v, w] H1 [.int (n : Int)]) (ht : ∀ (x y z : Nat) H1, Ex H H1 → x < n → y < n → z < n → EvT tt [a0, a1, some (.int (x : Int)), some (.int (y : Int)), some (.int (z : Int))] H1 (!hold x y z))
    (q : ∀ v H', Ex H H' → (v = .non ↔ ∀ x y z, x < n → y < n → z < n → hold x y z = true) → Q v H') :
    tSeq (tFor (iRng1 ta1) (gName 2) (tFor (iRng1 ta2) (gName 3) (tFor (iRng1 ta3) (gName 4) (tIfS tt (tRet (tTup (tCons (tVar 2) (tCons (tVar 3) (tCons (tVar 4) tNil))))) tNext)))) (tRet (tC .non)) (EndsK Q) [a0, a1, none, none, none] H := by
  refine q_forR1 (h1 _ _ _ H (Ex.refl H)) ⟨by omega, by omega⟩ (fun i σ' H' => Ex H H' ∧ (∀ x y z, x < i → y < n → z < n → hold x y z = true) ∧ ∃ u v w, σ' = [a0, a1, u, v, w]) (fun H1 e => ⟨e, fun x _ _ h => absurd h (Nat.not_lt_zero x), _, _, _, rfl⟩) (fun x σ1 H1 hx p1 => ?_) (fun σ1 H1 p1 => ?_)
  · obtain ⟨e1, g1, u1, v1, w1, rfl⟩ := p1
    have hx' : x < n := by omega
    refine s_forR1 (h2 _ _ _ H1 e1) ⟨by omega, by omega⟩ (fun j σ' H' => Ex H H' ∧ (∀ y z, y < j → z < n → hold x y z = true) ∧ ∃ v w, σ' = [a0, a1, some (.int (x : Int)), v, w]) (fun H2 e => ⟨e1.trans e, fun y _ h => absurd h (Nat.not_lt_zero y), _, _, rfl⟩) (fun y σ2 H2 hy p2 => ?_) (fun σ2 H2 p2 => ?_)
    · obtain ⟨e2, g2, v2, w2, rfl⟩ := p2
      have hy' : y < n := by omega
      refine s_forR1 (h3 _ _ _ H2 e2) ⟨by omega, by omega⟩ (fun k σ' H' => Ex H H' ∧ (∀ z, z < k → hold x y z = true) ∧ ∃ w, σ' = [a0, a1, some (.int (x : Int)), some (.int (y : Int)), w]) (fun H3 e => ⟨e2.trans e, fun z h => absurd h (Nat.not_lt_zero z), _, rfl⟩) (fun z σ3 H3 hz p3 => ?_) (fun σ3 H3 p3 => ?_)
      · obtain ⟨e3, g3, w3, rfl⟩ := p3
        have hz' : z < n := by omega
        refine s_when (ht x y z H3 e3 hx' hy' hz') (fun hb H4 e4 => ?_) (fun hb H4 e4 => ?_)
        · refine s_retU (eu_tup (ea_cons (ev_var rfl) (ea_cons (ev_var rfl) (ea_cons (ev_var rfl) ea_nil))) (by show 3 ≤ 100000; decide)) fun p H5 np e5 hp => q _ H5 ((e3.trans e4).trans e5) ⟨(fun h => nomatch h), fun h => ?_⟩
          have bad := notT hb
          rw [h x y z hx' hy' hz'] at bad
          cases bad
        · refine ⟨e3.trans e4, fun z' hz2 => ?_, _, rfl⟩
          by_cases e : z' = z
          · subst e
            exact notF hb
          · exact g3 z' (by omega)
      · obtain ⟨e3, g3, w3, rfl⟩ := p3
        refine ⟨e3, fun y' z hy2 hz => ?_, _, _, rfl⟩
        by_cases e : y' = y
        · subst e
          exact g3 z (by simpa using hz)
        · exact g2 y' z (by omega) hz
    · obtain ⟨e2, g2, v2, w2, rfl⟩ := p2
      refine ⟨e2, fun x' y z hx2 hy hz => ?_, _, _, _, rfl⟩
      by_cases e : x' = x
      · subst e
        exact g2 y z (by simpa using hy) hz
      · exact g1 x' y z (by omega) hy hz
  · obtain ⟨e1, g1, u1, v1, w1, rfl⟩ := p1
    exact s_ret ev_c fun H2 e2 => q _ H2 (e1.trans e2) ⟨fun _ x y z hx hy hz => g1 x y z (by simpa using hx) hy hz, fun _ => rfl⟩
theorem r_law_first_break {K : PySem.W.Frag} : ∀ vs H Q E, sp_law_first_break K vs H Q E → t_law_first_break K (EndsK Q) (L2.start n_law_first_break vs) H := by
  rintro vs H Q E ⟨r, as, R, n, k, rfl, hk, hn, hr, ok, q⟩
  have hlen : ∀ u v w H1, Ex H H1 → EvA (tCons (tCB (rLenS K) (tCons (tVar 0) tNil)) tNil) [some (.ref r), some (.str (ruleS k)), u, v, w] H1 [.int (n : Int)] := fun u v w H1 e =>
    ea_cons (ev_is (ev_lenL (ev_var rfl) (sq_of (hr.ex e).at_)) (by rw [List.length_map, hr.len, ok.len])) ea_nil
  refine breaks_walk (hold := holdsL (opOf R) k) (n := n) (by omega) hlen hlen hlen (fun x y z H1 e hx hy hz => ?_) (fun v H' e h => q v H' e (h.trans ?_))
  · refine et_not (et_B (ev_callV (ea_cons (ev_var rfl) (ea_cons (ev_var rfl) (ea_cons (ev_var rfl) (ea_cons (ev_var rfl) (ea_cons (ev_var rfl) ea_nil))))) fun H2 e2 Q2 q2 => ⟨r, as, R, n, k, x, y, z, rfl, hk, hx, hy, hz, hr.ex (e.trans e2), ok, q2⟩))
  · unfold Kept
    exact ⟨fun h x y z hx hy hz => by rw [holds_same]; exact h x y z hx hy hz, fun h x y z hx hy hz => by rw [← holds_same]; exact h x y z hx hy hz⟩
theorem rules_in : ∀ k, k < 9 → inV (.str (ruleS k)) [.str "grouping", .str "order", .str "middle", .str "first", .str "last", .str "ends", .str "keep", .str "take", .str "vanish"] = true
  | 0, _ => by decide +kernel
  | 1, _ => by decide +kernel
  | 2, _ => by decide +kernel
  | 3, _ => by decide +kernel
  | 4, _ => by decide +kernel
  | 5, _ => by decide +kernel
  | 6, _ => by decide +kernel
  | 7, _ => by decide +kernel
  | 8, _ => by decide +kernel
  | n + 9, h => absurd h (by omega)
section
variable {P : Program} {K : PySem.W.Frag} {mg : Str → Option Value} {H : Hp} {σ : L2.St} {te : TE} {t r : Addr} {n : Nat} {as : List Addr} {R : List (List Nat)}
theorem ev_size (T : Txt P K mg) (h : TblAt K H t n r as R) (he : Ev te σ H (.ref t)) : Ev (tFld K te "size") σ H (.int (n : Int)) := by
  obtain ⟨dx, hi⟩ := h.ins
  exact ev_fld he hi T.cls T.size rfl
theorem ev_rows (T : Txt P K mg) (h : TblAt K H t n r as R) (he : Ev te σ H (.ref t)) : Ev (tFld K te "rows") σ H (.ref r) := by
  obtain ⟨dx, hi⟩ := h.ins
  exact ev_fld he hi T.cls T.rows rfl
end
theorem r_Tbreaks {P : Program} {K : PySem.W.Frag} {mg : Str → Option Value} (T : Txt P K mg) : ∀ vs H Q E, sp_Tbreaks K vs H Q E → t_Tbreaks K (EndsK Q) (L2.start n_Tbreaks vs) H := by
  rintro vs H Q E ⟨t, r, as, R, n, k, rfl, hk, h, q⟩
  have ask : EvT (tTest (tOp (rIn K true) (tVar 1) (tC (.ref (He.ga K "RULES"))))) (L2.start n_Tbreaks [.ref t, .str (ruleS k)]) H false :=
    et_test (ev_is (ev_op (ev_var rfl) ev_c (rv_niT (T.rules H) rfl rfl)) (by rw [rules_in k hk]; rfl))
  refine q_when ask (fun hb => by cases hb) (fun _ H1 e1 => ?_)
  have hlen : ∀ u v w H2, Ex H1 H2 → EvA (tCons (tFld K (tVar 0) "size") tNil) [some (.ref t), some (.str (ruleS k)), u, v, w] H2 [.int (n : Int)] := fun u v w H2 e =>
    ea_cons (ev_size T (h.ex (e1.trans e)) (ev_var rfl)) ea_nil
  refine breaks_walk (hold := holdsP (opOf R) k) (n := n) (by have := h.sm; omega) hlen hlen hlen (fun x y z H2 e hx hy hz => ?_) (fun v H' e hv => q v H' (e1.trans e) hv)
  have hh := h.ex (e1.trans e)
  refine et_not (et_B (ev_callV (ea_cons (ev_rows T hh (ev_var rfl)) (ea_cons (ev_var rfl) (ea_cons (ev_var rfl) (ea_cons (ev_var rfl) (ea_cons (ev_var rfl) ea_nil))))) fun H3 e3 Q2 q2 => ⟨r, as, R, n, k, x, y, z, rfl, hk, hx, hy, hz, hh.rows.ex e3, h.ok, q2⟩))
end K28
end
section
namespace K28
open PySem PySem.Spec L2 PyProof.Rows Evl
section
variable {K : PySem.W.Frag} {σ : L2.St} {H : Hp} {te : TE} {t : TT}
/-- a comprehension over a tuple -/
theorem el_lcT {a : Addr} {xs : List V} {tl : TE} {j : Nat} {vs : List Nat} (f : Nat → Bool) (v : Nat → V) (h : Ev tl σ H (.ref a)) (hx : ∀ H1, Ex H H1 → SqT K H1 a xs) (hz : xs.length ≤ 40000) (hw : ∀ x, wipe ((wipe σ vs).set j (some x)) vs = wipe σ vs)
    (ht : ∀ (i : Nat) (x : V) H1, Ex H H1 → xs[i]? = some x → EvT t ((wipe σ vs).set j (some x)) H1 (f i)) (he : ∀ (i : Nat) (x : V) H1, Ex H H1 → xs[i]? = some x → f i = true → Ev te ((wipe σ vs).set j (some x)) H1 (v i)) :
    EvL (tLc (iTup K tl) (gName j) t te vs) σ H (given xs.length f v) := fun H0 e Q q => h H0 e _ fun H1 e1 => ⟨a, rfl, ⟨xs, hx H1 (e.trans e1)⟩, fun Dl hD =>
  lc_tup (xs := xs) (Cw H1 f v Dl) ⟨hD, Ex.new hD, upd_same⟩ (fun i H' _ p => hx H' ((e.trans e1).trans p.2.1)) (fun i x H' hi p => ⟨hw x, cw_turn p (by have := (List.getElem?_eq_some_iff.mp hi).1; omega) (ht i x H1 (e.trans e1) hi) (fun hf => he i x H1 (e.trans e1) hi hf)⟩)
    (fun H' p => q Dl H' (fresh_back e1 p.1) (e1.trans p.2.1) p.2.2)⟩
end
theorem nine_at {i : Nat} {x : V} (h : nine[i]? = some x) : i < 9 ∧ x = .str (ruleS i) := by
  have e : nine = (List.range 9).map fun i => V.str (ruleS i) := rfl
  rw [e, List.getElem?_map] at h
  cases q : (List.range 9)[i]? with
  | none =>
    rw [q] at h
    cases h
  | some j =>
    rw [q] at h
    obtain ⟨h1, h2⟩ := List.getElem?_eq_some_iff.mp q
    rw [List.getElem_range] at h2
    rw [List.length_range] at h1
    subst h2
    cases h
    exact ⟨h1, rfl⟩
open Classical in
/-- the rules that are kept -/
noncomputable def keptRules (op : Nat → Nat → Nat) (n : Nat) : List Nat := (List.range 9).filter fun k => decide (Kept op n k)
open Classical in
theorem kr_mem {op : Nat → Nat → Nat} {n k : Nat} : k ∈ keptRules op n ↔ k < 9 ∧ Kept op n k := by
  unfold keptRules
  rw [List.mem_filter, List.mem_range, decide_eq_true_iff]
open Classical in
theorem kr_given {op : Nat → Nat → Nat} {n : Nat} : given 9 (fun k => decide (Kept op n k)) (fun k => V.str (ruleS k)) = (keptRules op n).map fun k => V.str (ruleS k) := rfl
open Classical in
theorem r_law_rules_kept {K : PySem.W.Frag} : ∀ vs H Q E, sp_law_rules_kept K vs H Q E → t_law_rules_kept K (EndsK Q) (L2.start n_law_rules_kept vs) H := by
  rintro vs H Q E ⟨r, as, R, n, rfl, hn, hr, ok, q⟩
  refine s_retL (xs := given 9 (fun k => decide (Kept (opOf R) n k)) fun k => V.str (ruleS k)) ?_ fun p H1 np e hp => ?_
  · refine el_lcNL (xs := nine) _ _ (el_callL ea_nil fun H1 e Q2 q2 => ⟨rfl, fun H' p e2 np hp => q2 p H' np e2 hp⟩) (by show 9 ≤ 40000; decide) (fun _ => rfl) (fun i x H1 e hx => ?_) (fun i x H1 e hx hf => ?_)
    · obtain ⟨hi, rfl⟩ := nine_at hx
      intro H2 e2 Q2 q2
      refine ⟨_, rfl, _, rfl, ?_⟩
      refine ⟨r, as, R, n, i, rfl, hi, hn, hr.ex (e.trans e2), ok, fun v H' e3 hv => ⟨rfl, _, rfl, ?_⟩⟩
      have eb : decide (v = .non) = decide (Kept (opOf R) n i) := by
        rw [decide_eq_decide]
        exact hv
      rw [eb]
      exact q2 H' e3
    · obtain ⟨hi, rfl⟩ := nine_at hx
      exact ev_var rfl
  · rw [kr_given] at hp
    exact q H1 p _ e np hp (fun k hk => (kr_mem.mp hk).1) fun k hk => ⟨fun h => (kr_mem.mp h).2, fun h => kr_mem.mpr ⟨hk, h⟩⟩
open Classical in
theorem r_Trules {P : Program} {K : PySem.W.Frag} {mg : Str → Option Value} (T : Txt P K mg) : ∀ vs H Q E, sp_Trules K vs H Q E → t_Trules K (EndsK Q) (L2.start n_Trules vs) H := by
  rintro vs H Q E ⟨t, r, as, R, n, rfl, h, q⟩
  refine s_retL (xs := given 9 (fun k => decide (Kept (opOf R) n k)) fun k => V.str (ruleS k)) ?_ fun p H1 np e hp => ?_
  · refine el_lcT (xs := nine) _ _ ev_c (fun H1 _ => T.rules H1) (by show 9 ≤ 40000; decide) (fun _ => rfl) (fun i x H1 e hx => ?_) (fun i x H1 e hx hf => ?_)
    · obtain ⟨hi, rfl⟩ := nine_at hx
      intro H2 e2 Q2 q2
      obtain ⟨dx, hins⟩ := (h.ex (e.trans e2)).ins
      refine ⟨_, rfl, t, dx, _, rfl, hins, rfl, _, rfl, ?_⟩
      refine ⟨t, r, as, R, n, i, rfl, hi, h.ex (e.trans e2), fun v H' e3 hv => ⟨rfl, _, rfl, ?_⟩⟩
      have eb : decide (v = .non) = decide (Kept (opOf R) n i) := by
        rw [decide_eq_decide]
        exact hv
      rw [eb]
      exact q2 H' e3
    · obtain ⟨hi, rfl⟩ := nine_at hx
      exact ev_var rfl
  · rw [kr_given] at hp
    exact q H1 p _ e np hp (fun k hk => (kr_mem.mp hk).1) fun k hk => ⟨fun h => (kr_mem.mp h).2, fun h => kr_mem.mpr ⟨hk, h⟩⟩
theorem r_law_nine {K : PySem.W.Frag} : ∀ vs H Q E, sp_law_nine K vs H Q E → t_law_nine K (EndsK Q) (L2.start n_law_nine vs) H := by
  rintro vs H Q E ⟨rfl, q⟩
  exact s_retL (el_lst (ea_cons ev_c (ea_cons ev_c (ea_cons ev_c (ea_cons ev_c (ea_cons ev_c (ea_cons ev_c (ea_cons ev_c (ea_cons ev_c (ea_cons ev_c ea_nil))))))))) (by show 9 ≤ 100000; decide)) fun p H1 np e hp => q H1 p e np hp
/-! ### once -/
section
variable {K : PySem.W.Frag} {σ : L2.St} {H : Hp} {ta tb : TE}
theorem el_cat {g : Addr} {xs ys : List V} (hg : H g = some (.lst xs)) (ha : Ev ta σ H (.ref g)) (hb : EvL tb σ H ys) (hz : xs.length + ys.length ≤ 100000) : EvL (tOp rCat ta tb) σ H (xs ++ ys) := fun H1 e Q q =>
  ha H1 e _ fun H2 e2 => hb H2 (e.trans e2) _ fun p H3 np e3 hp => ⟨g, p, xs, ys, rfl, rfl, ((e.trans e2).trans e3) _ _ hg, hp, sz_of hz, fun r nr => q r _ (fresh_back (e2.trans e3) nr) ((e2.trans e3).trans (Ex.new nr)) upd_same⟩
/-- both new -/
theorem el_catN {xs ys : List V} (ha : EvL ta σ H xs) (hb : EvL tb σ H ys) (hz : xs.length + ys.length ≤ 100000) : EvL (tOp rCat ta tb) σ H (xs ++ ys) := fun H1 e Q q =>
  ha H1 e _ fun g H2 ng e2 hg => hb H2 (e.trans e2) _ fun p H3 np e3 hp => ⟨g, p, xs, ys, rfl, rfl, e3 _ _ hg, hp, sz_of hz, fun r nr => q r _ (fresh_back (e2.trans e3) nr) ((e2.trans e3).trans (Ex.new nr)) upd_same⟩
theorem el_rep {xs : List V} {k : Nat} (ha : EvL ta σ H xs) (hb : Ev tb σ H (.int (k : Int))) (hk : k ≤ 100) (hz : xs.length * k ≤ 100000) : EvL (tOp rRep ta tb) σ H (List.replicate k xs).flatten := fun H1 e Q q =>
  ha H1 e _ fun p H2 np e2 hp => hb H2 (e.trans e2) _ fun H3 e3 => ⟨p, (k : Int), xs, rfl, rfl, e3 _ _ hp, by omega, by omega, sz_of (by rw [Int.toNat_natCast]; exact hz), fun r nr => q r _ (fresh_back (e2.trans e3) nr) ((e2.trans e3).trans (Ex.new nr)) (by rw [Int.toNat_natCast]; exact upd_same)⟩
end
theorem addN_len (F : List Nat) (x : Nat) : (addN F x).length ≤ F.length + 1 := by
  unfold addN
  split <;> simp
theorem fold_len : ∀ (l F : List Nat), (l.foldl addN F).length ≤ F.length + l.length
  | [], F => Nat.le_refl _
  | x :: l, F => by
    have h := fold_len l (addN F x)
    have h2 := addN_len F x
    rw [List.foldl_cons, List.length_cons]
    omega
theorem once_len (l : List Nat) : (once l).length ≤ l.length := by
  have h := fold_len l []
  unfold once
  simpa using h
/-- [x] * int(x not in F) behind F -/
theorem add_rep (F : List Nat) (x : Nat) : nI F ++ (List.replicate (if (!inV (.int (x : Int)) (nI F)) = true then 1 else 0) [V.int (x : Int)]).flatten = nI (addN F x) := by
  rw [nI_in]
  unfold addN
  by_cases h : x ∈ F
  · rw [decide_eq_true h, if_pos h]
    show nI F ++ [] = _
    rw [List.append_nil]
  · rw [decide_eq_false h, if_neg h, nI_app]
    rfl
theorem r_law_once {K : PySem.W.Frag} : ∀ vs H Q E, sp_law_once K vs H Q E → t_law_once K (EndsK Q) (L2.start n_law_once vs) H := by
  rintro vs H Q E ⟨v, l, rfl, hv, hl, q⟩
  refine q_asgL (el_lst ea_nil (Nat.zero_le _)) fun f H1 nf e1 hf => ?_
  refine q_forLn (a := v) (xs := nI l) (ev_var rfl) (sq_of (e1 _ _ hv)) (fun i σ' H' => ∃ (g : Addr) (w : Option V), H g = none ∧ Ex H H' ∧ H' g = some (.lst (nI (once (l.take i)))) ∧ σ' = [some (.ref v), some (.ref g), w]) (fun H2 e2 => ⟨f, none, nf, e1.trans e2, e2 _ _ hf, rfl⟩) (fun i σ' H' _ p => ?_) (fun i x σ' H' hx p => ?_) (fun σ' H' p => ?_)
  · obtain ⟨g, w, ng, e, hg, rfl⟩ := p
    exact sq_of (e _ _ hv)
  · obtain ⟨g, w, ng, e, hg, rfl⟩ := p
    obtain ⟨z, hz, rfl⟩ := nI_of hx
    have hi : i < l.length := (List.getElem?_eq_some_iff.mp hz).1
    have small : (once (l.take i)).length ≤ i := Nat.le_trans (once_len _) (by rw [List.length_take]; omega)
    have rep : EvL (tOp rRep (tLst (tCons (tVar 2) tNil)) (tCB rInt1 (tCons (tOp (rIn K true) (tVar 2) (tVar 1)) tNil))) [some (.ref v), some (.ref g), some (.int (z : Int))] H' (List.replicate (if (!inV (.int (z : Int)) (nI (once (l.take i)))) = true then 1 else 0) [V.int (z : Int)]).flatten := by
      refine el_rep (el_lst (ea_cons (ev_var rfl) ea_nil) (by show 1 ≤ 100000; decide)) (ev_is (ev_intB (ev_op (ev_var rfl) (ev_var rfl) (rv_niL (sq_of hg) rfl (nI_flat _)))) ?_) ?_ ?_
      · split <;> rfl
      · split <;> decide
      · show 1 * _ ≤ 100000
        split <;> decide
    refine s_asgL (xs := nI (once (l.take (i + 1)))) ?_ fun p H2 np e2 hp => ⟨p, some (.int (z : Int)), fresh_back e np, e.trans e2, hp, rfl⟩
    have c := el_cat hg (ev_var (i := 1) rfl) rep (by
      rw [nI_len]
      split
      · show _ + 1 ≤ _
        omega
      · show _ + 0 ≤ _
        omega)
    rw [add_rep, ← once_snoc, ← take_succ_at hz] at c
    exact c
  · obtain ⟨g, w, ng, e, hg, rfl⟩ := p
    rw [nI_len, List.take_length] at hg
    exact s_ret (ev_var rfl) fun H2 e2 => q H2 g (e.trans e2) ng (e2 _ _ hg)
end K28
end
section
namespace K28
open PySem PySem.Spec L2 PyProof.Rows Evl
/-! ### exceptions raised -/
theorem exo_end {H : Hp} {a d : Addr} {o1 o2 o3 : HO} {fs : List (Str × V)} (ha : H a = none) (hd : H d = none) (hda : d ≠ a) : Ex H (upd (del (upd (upd (upd H a o1) d o2) a o3) a) d (.xd fs)) := fun b o hb => by
  have b1 : b ≠ a := fun e => by
    rw [e, ha] at hb
    cases hb
  have b2 : b ≠ d := fun e => by
    rw [e, hd] at hb
    cases hb
  rw [upd_ne b2, del_ne b1, upd_ne b1, upd_ne b2, upd_ne b1]
  exact hb
theorem raise_V {K : PySem.W.Frag} {E : XK} {D : Ends} {σ : L2.St} {H : Hp} {v : V} {te : TE} (h : Ev te σ H v) (bad : Bad K "BadValue" [("value", v)] H E) : rRaise E (tMkO (He.ga K "BadValue") (sp_BadValue K) [] (tCons te tNil)) D σ H :=
  h H (Ex.refl H) _ fun H1 e1 => ⟨by show 1 ≤ 1000; decide, fun a na => ⟨a, v, rfl, upd_same, fun d hd hda => by
    rw [upd_ne hda] at hd
    refine ⟨rfl, d, [("value", v)], upd_same, ?_, hd, bad _ d (e1.trans (exo_end na hd hda)) upd_same⟩
    rw [upd_ne hda]
    exact upd_same⟩⟩
theorem raise_S {K : PySem.W.Frag} {E : XK} {D : Ends} {σ : L2.St} {H : Hp} {v : V} {te : TE} (h : Ev te σ H v) (bad : Bad K "BadSize" [("size", v)] H E) : rRaise E (tMkO (He.ga K "BadSize") (sp_BadSize K) [] (tCons te tNil)) D σ H :=
  h H (Ex.refl H) _ fun H1 e1 => ⟨by show 1 ≤ 1000; decide, fun a na => ⟨a, v, rfl, upd_same, fun d hd hda => by
    rw [upd_ne hda] at hd
    refine ⟨rfl, d, [("size", v)], upd_same, ?_, hd, bad _ d (e1.trans (exo_end na hd hda)) upd_same⟩
    rw [upd_ne hda]
    exact upd_same⟩⟩
theorem raise_N {K : PySem.W.Frag} {E : XK} {D : Ends} {σ : L2.St} {H : Hp} {l r : Nat} {te tf : TE} (h : Ev te σ H (.int (l : Int))) (h2 : Ev tf σ H (.int (r : Int))) (hl : l < 10) (hr : r < 10) (bad : Bad K "NotClosed" [("right", .int (r : Int)), ("left", .int (l : Int))] H E) :
    rRaise E (tMkO (He.ga K "NotClosed") (sp_NotClosed K) [] (tCons te (tCons tf tNil))) D σ H :=
  h H (Ex.refl H) _ fun H0 e0 => h2 H0 e0 _ fun H1 e1 => ⟨by show 2 ≤ 1000; decide, fun a na => ⟨a, l, r, rfl, hl, hr, upd_same, fun d hd hda => by
    rw [upd_ne hda] at hd
    refine ⟨rfl, d, [("right", .int (r : Int)), ("left", .int (l : Int))], ?_, upd_same, hd, bad _ d ((e0.trans e1).trans ?_) upd_same⟩
    · rw [upd_ne hda.symm]
      exact upd_same
    · intro b o hb
      have b1 : b ≠ a := fun e => by
        rw [e, na] at hb
        cases hb
      have b2 : b ≠ d := fun e => by
        rw [e, hd] at hb
        cases hb
      rw [upd_ne b2, del_ne b1, upd_ne b2, upd_ne b1, upd_ne b2, upd_ne b1]
      exact hb⟩⟩
theorem Bad.back {K : PySem.W.Frag} {x : Str} {fs : List (Str × V)} {H H1 : Hp} {E : XK} (h : Bad K x fs H E) (e : Ex H H1) : Bad K x fs H1 E := fun H' d e' hd => h H' d (e.trans e') hd
/-! ### check -/
theorem et_out {P : Program} {K : PySem.W.Frag} {mg : Str → Option Value} (T : Txt P K mg) {H : Hp} {σ : L2.St} {te tf : TE} {x : Int} {n : Nat} (h : Ev te σ H (.int x)) (hf : Ev tf σ H (.int (n : Int))) : EvT (tTest (tOp rOutR te (tCB rRngV (tCons tf tNil)))) σ H (!decide (0 ≤ x ∧ x < (n : Int))) := fun H1 e Q q =>
  h H1 e _ fun H2 e2 => hf H2 (e.trans e2) _ fun H3 e3 => ⟨(n : Int), rfl, fun p np => ⟨x, p, 0, (n : Int), rfl, rfl, upd_same, _, rfl, q _ ((e2.trans e3).trans (Ex.new np))⟩⟩
theorem r_Tcheck {P : Program} {K : PySem.W.Frag} {mg : Str → Option Value} (T : Txt P K mg) : ∀ vs H Q E, sp_Tcheck K vs H Q E → t_Tcheck K E (EndsK Q) (L2.start n_Tcheck vs) H := by
  rintro vs H Q E ⟨t, v, dx, r, n, xs, rfl, ht, hv, good, bad⟩
  have turn : ∀ (i : Nat) (x : V) (w : Option V) (H1 : Hp) (D : Ends), (iI xs)[i]? = some x → Ex H H1 → (∀ (j : Nat) (y : Int), j < i → xs[j]? = some y → 0 ≤ y ∧ y < (n : Int)) → (D.nx = fun σ2 H2 => Ex H H2 ∧ (∀ (j : Nat) (y : Int), j < i + 1 → xs[j]? = some y → 0 ≤ y ∧ y < (n : Int)) ∧ ∃ w, σ2 = [some (.ref t), some (.ref v), w]) →
      tIfS (tTest (tOp rOutR (tVar 2) (tCB rRngV (tCons (tFld K (tVar 0) "size") tNil)))) (rRaise E (tMkO (He.ga K "BadValue") (sp_BadValue K) [] (tCons (tVar 2) tNil))) tNext D [some (.ref t), some (.ref v), some x] H1 := by
    intro i x w H1 D hx e1 low hD
    obtain ⟨z, hz, rfl⟩ := iI_of hx
    refine s_when (et_out T (x := z) (n := n) (ev_var rfl) (ev_fld (ev_var rfl) (e1 _ _ ht) T.cls T.size rfl)) (fun hb H2 e2 => ?_) (fun hb H2 e2 => ?_)
    · exact raise_V (ev_var rfl) ((bad z ⟨i, hz, of_decide_eq_false (notT hb), low⟩).back (e1.trans e2))
    · rw [hD]
      refine ⟨e1.trans e2, fun j y hj hy => ?_, _, rfl⟩
      by_cases e : j = i
      · subst e
        rw [hz] at hy
        cases hy
        exact of_decide_eq_true (notF hb)
      · exact low j y (by omega) hy
  have fin : ∀ (H1 : Hp), Ex H H1 → (∀ (j : Nat) (y : Int), j < xs.length → xs[j]? = some y → 0 ≤ y ∧ y < (n : Int)) → Q .non H1 := fun H1 e1 low => good (fun x hx => by
    obtain ⟨j, hj⟩ := List.getElem?_of_mem hx
    exact low j x (List.getElem?_eq_some_iff.mp hj).1 hj) H1 e1
  refine ⟨.ref v, rfl, v, rfl, ?_⟩
  rcases hv with hv | hv
  · refine .inl ⟨⟨_, hv⟩, for_list (xs := iI xs) (fun i σ' H' => Ex H H' ∧ (∀ (j : Nat) (y : Int), j < i → xs[j]? = some y → 0 ≤ y ∧ y < (n : Int)) ∧ ∃ w, σ' = [some (.ref t), some (.ref v), w]) ⟨Ex.refl _, fun j _ h => absurd h (Nat.not_lt_zero j), none, rfl⟩ (fun i σ' H' _ p => ex_l p.1 hv) (fun i x σ' H' hx p => ?_) (fun σ' H' p => ?_)⟩
    · obtain ⟨e1, low, w, rfl⟩ := p
      exact turn i x w H' _ hx e1 low rfl
    · obtain ⟨e1, low, w, rfl⟩ := p
      rw [iI_len] at low
      exact fin H' e1 low
  · refine .inr ⟨⟨_, hv⟩, for_tup (xs := iI xs) (fun i σ' H' => Ex H H' ∧ (∀ (j : Nat) (y : Int), j < i → xs[j]? = some y → 0 ≤ y ∧ y < (n : Int)) ∧ ∃ w, σ' = [some (.ref t), some (.ref v), w]) ⟨Ex.refl _, fun j _ h => absurd h (Nat.not_lt_zero j), none, rfl⟩ (fun i σ' H' _ p => ex_t p.1 hv) (fun i x σ' H' hx p => ?_) (fun σ' H' p => ?_)⟩
    · obtain ⟨e1, low, w, rfl⟩ := p
      exact turn i x w H' _ hx e1 low rfl
    · obtain ⟨e1, low, w, rfl⟩ := p
      rw [iI_len] at low
      exact fin H' e1 low
end K28
end
section
namespace K28
open PySem PySem.Spec L2 PyProof.Rows
abbrev s_xV : Stmt := inClass (top 5) 0
abbrev s_xS : Stmt := inClass (top 6) 0
abbrev s_xN : Stmt := inClass (top 7) 0
theorem ssV : SupScope ["self", "value"] ["self", "value"] (defScope s_xV) := ⟨rfl, rfl, rfl, by decide +kernel, rfl, by decide +kernel, by decide +kernel, fun y hy => by
  have h : y ∈ ((defScope s_xV).names.filter fun q => decide (q.2 = .free)).map (·.1) := List.mem_map.mpr ⟨(y, .free), List.mem_filter.mpr ⟨PySem.mem_of_lookup hy, rfl⟩, rfl⟩
  have e : ((defScope s_xV).names.filter fun q => decide (q.2 = .free)).map (·.1) = [("__class__" : Str)] := by decide +kernel
  rw [e] at h
  exact List.mem_singleton.mp h⟩
theorem ssS : SupScope ["self", "size"] ["self", "size"] (defScope s_xS) := ⟨rfl, rfl, rfl, by decide +kernel, rfl, by decide +kernel, by decide +kernel, fun y hy => by
  have h : y ∈ ((defScope s_xS).names.filter fun q => decide (q.2 = .free)).map (·.1) := List.mem_map.mpr ⟨(y, .free), List.mem_filter.mpr ⟨PySem.mem_of_lookup hy, rfl⟩, rfl⟩
  have e : ((defScope s_xS).names.filter fun q => decide (q.2 = .free)).map (·.1) = [("__class__" : Str)] := by decide +kernel
  rw [e] at h
  exact List.mem_singleton.mp h⟩
theorem ssN : SupScope ["self", "left", "right"] ["self", "left", "right"] (defScope s_xN) := ⟨rfl, rfl, rfl, by decide +kernel, rfl, by decide +kernel, by decide +kernel, fun y hy => by
  have h : y ∈ ((defScope s_xN).names.filter fun q => decide (q.2 = .free)).map (·.1) := List.mem_map.mpr ⟨(y, .free), List.mem_filter.mpr ⟨PySem.mem_of_lookup hy, rfl⟩, rfl⟩
  have e : ((defScope s_xN).names.filter fun q => decide (q.2 = .free)).map (·.1) = [("__class__" : Str)] := by decide +kernel
  rw [e] at h
  exact List.mem_singleton.mp h⟩
theorem num_len : ∀ n : Nat, n < 10 → ((toString (n : Int) : String) : Str).length ≤ 2 := by decide +kernel
section
variable {P : Program} {w : World} {K : PySem.W.Frag} {mg : Str → Option Value} {base : Heap}
theorem sup_binds {C f : Addr} {nm qual : Str} {params : Arguments} {body : List Stmt} {scope : Scope} {fd : FuncData} {ps : List Str} (F : SupFn K P C f nm qual params body scope fd)
    (h : ∀ (kV doc pm : Value) (an : Option Addr) (cdv ct : Value) (cc : Addr) (us : List Value), us.length = ps.length → bindArgs (PySem.W.ksFn nm qual params body scope .none kV doc pm an cdv ct cc) ⟨us, []⟩ = pure (ps.zip us)) : L2.Binds K fd ps [] := by
  obtain ⟨oc, od, kV, doc, pm, an, cda, cc, ct, osl, cl, ccl, cld, cdd, csl, ccs, cvs, file, tf, rfl, _⟩ := F.ex
  exact .all fun us hl => h _ _ _ _ _ _ _ us hl
abbrev SupIn (P : Program) (K : PySem.W.Frag) (x qual : Str) (st : Stmt) : Prop := ∃ fd, SupFn K P (He.ga K x) (He.ma K (He.ga K x) "__init__") "__init__" qual (defArgs st) (defBody st) (defScope st) fd
theorem ok_xV (T : Txt P K mg) (hsm : mg "super" = none) (S : SupIn P K "BadValue" "BadValue.__init__" s_xV) (kp : PySem.W.keepIn K (.ref (He.ma K (He.ga K "BadValue") "__init__")) = true) : Good P w K mg base 2 (He.ma K (He.ga K "BadValue") "__init__") ["self", "value"] (sp_BadValue K) := by
  obtain ⟨fd, F⟩ := S
  have E := T.exc "BadValue" (by decide +kernel)
  refine ⟨⟨fd, ?_, sup_binds F fun _ _ _ _ _ _ _ us hl => match us, hl with | [_, _], _ => rfl⟩, kp⟩
  refine sup_ok (k := 1) F ssV (fun vs H Q E h => ?_) rfl rfl hsm rfl rfl (fun cdv cc A outer s H vs Q E hr h => ⟨_, _, pa_cons pe_str pa_nil, pss_one (ps_ost (pv 0) (pv 1)), ?_⟩)
  · obtain ⟨a, v, rfl, _⟩ := h
    rfl
  · obtain ⟨a, v, rfl, ha, q⟩ := h
    refine ⟨a, rfl, ?_⟩
    have oex := (T.exc "BadValue" (by decide +kernel)).oex
    exact ⟨oex, ha, by decide, ha, _, rfl, _, rfl, a, _, rfl, oex, T.fval, .inl ⟨ha, q⟩⟩
theorem ok_xS (T : Txt P K mg) (hsm : mg "super" = none) (S : SupIn P K "BadSize" "BadSize.__init__" s_xS) (kp : PySem.W.keepIn K (.ref (He.ma K (He.ga K "BadSize") "__init__")) = true) : Good P w K mg base 2 (He.ma K (He.ga K "BadSize") "__init__") ["self", "size"] (sp_BadSize K) := by
  obtain ⟨fd, F⟩ := S
  have E := T.exc "BadSize" (by decide +kernel)
  refine ⟨⟨fd, ?_, sup_binds F fun _ _ _ _ _ _ _ us hl => match us, hl with | [_, _], _ => rfl⟩, kp⟩
  refine sup_ok (k := 1) F ssS (fun vs H Q E h => ?_) rfl rfl hsm rfl rfl (fun cdv cc A outer s H vs Q E hr h => ⟨_, _, pa_cons pe_str pa_nil, pss_one (ps_ost (pv 0) (pv 1)), ?_⟩)
  · obtain ⟨a, v, rfl, _⟩ := h
    rfl
  · obtain ⟨a, v, rfl, ha, q⟩ := h
    have oex := (T.exc "BadSize" (by decide +kernel)).oex
    exact ⟨a, rfl, oex, ha, by decide, ha, _, rfl, _, rfl, a, _, rfl, oex, T.fsize, .inl ⟨ha, q⟩⟩
theorem ok_xN (T : Txt P K mg) (hsm : mg "super" = none) (S : SupIn P K "NotClosed" "NotClosed.__init__" s_xN) (kp : PySem.W.keepIn K (.ref (He.ma K (He.ga K "NotClosed") "__init__")) = true) : Good P w K mg base 2 (He.ma K (He.ga K "NotClosed") "__init__") ["self", "left", "right"] (sp_NotClosed K) := by
  obtain ⟨fd, F⟩ := S
  have E := T.exc "NotClosed" (by decide +kernel)
  refine ⟨⟨fd, ?_, sup_binds F fun _ _ _ _ _ _ _ us hl => match us, hl with | [_, _, _], _ => rfl⟩, kp⟩
  refine sup_ok (k := 1) F ssN (fun vs H Q E h => ?_) rfl rfl hsm rfl rfl (fun cdv cc A outer s H vs Q E hr h => ⟨_, _, pa_cons (pe_joined (.cons pe_str (.cons (pe_fmt (pv 1)) (.cons pe_str (.cons (pe_fmt (pv 2)) .nil))))) pa_nil, pss_cons (ps_ost (pv 0) (pv 1)) (pss_one (ps_ost (pv 0) (pv 2))), ?_⟩)
  · obtain ⟨a, v, r, rfl, _⟩ := h
    rfl
  · obtain ⟨a, l, r, rfl, hl, hr2, ha, q⟩ := h
    have oex := (T.exc "NotClosed" (by decide +kernel)).oex
    have lt : ∀ n : Nat, n < 10 → (n : Int).natAbs.log2 < 1920 := fun n hn => by
      rw [Int.natAbs_natCast]
      exact Nat.lt_of_le_of_lt (Nat.log2_le_self n) (by omega)
    have sz : ∀ n : Nat, n ≤ 100 → n ≤ sizeLine := fun n hn => by
      rw [sizeLine_eq]
      omega
    have ll := num_len l hl
    have lr := num_len r hr2
    have p1 : (Str.empty ++ ("no value here: the sum of " : Str)).length ≤ 40 := by decide +kernel
    have p2 : (" and " : Str).length ≤ 10 := by decide +kernel
    have ap : ∀ a b : Str, (a ++ b).length = a.length + b.length := fun a b => by
      show (a.cps ++ b.cps).size = _
      exact Array.size_append
    refine ⟨a, rfl, oex, ha, ?_⟩
    refine ⟨_, rfl, sz _ (by omega), _, rfl, .inr ⟨_, rfl, lt l hl, _, rfl, sz _ ?_, _, rfl, sz _ ?_, _, rfl, .inr ⟨_, rfl, lt r hr2, _, rfl, sz _ ?_, ?_⟩⟩⟩
    · rw [ap]
      exact Nat.le_trans (Nat.add_le_add p1 ll) (by decide)
    · rw [ap, ap]
      exact Nat.le_trans (Nat.add_le_add (Nat.add_le_add p1 ll) p2) (by decide)
    · rw [ap, ap, ap]
      exact Nat.le_trans (Nat.add_le_add (Nat.add_le_add (Nat.add_le_add p1 ll) p2) lr) (by decide)
    · refine ⟨by show 1 ≤ 1000; decide, ha, _, rfl, _, rfl, a, _, rfl, oex, T.fleft, .inl ⟨ha, fun d hd hne => ?_⟩⟩
      refine ⟨_, rfl, _, rfl, a, _, rfl, oex, T.fright, .inr ⟨d, [("left", .int (l : Int))], upd_same, ?_, by show 1 ≤ 900; decide, ?_⟩⟩
      · rw [upd_ne hne]
        exact upd_same
      · exact q d hd hne
end
end K28
end
section
namespace K28
open PySem PySem.Spec L2 PyProof.Rows Evl
/-! ### a new list of new lists -/
def EvR (te : TE) (σ : L2.St) (H : Hp) (rows : List (List V)) : Prop := ∀ H1, Ex H H1 → ∀ Q : VK, (∀ (p : Addr) (as : List Addr) H2, newAll H1 p as → as.Nodup → Ex H1 H2 → H2 p = some (.lst (as.map V.ref)) → as.length = rows.length →
  (∀ (i : Nat) (a : Addr) (x : List V), as[i]? = some a → rows[i]? = some x → H2 a = some (.lst x)) → Q (.ref p) H2) → te σ H1 Q
def Rw (H : Hp) (rows : List (List V)) (D : Addr) (i : Nat) (H' : Hp) : Prop := H D = none ∧ Ex H H' ∧ ∃ as : List Addr, as.length = i ∧ as.Nodup ∧ D ∉ as ∧ (∀ a ∈ as, H a = none) ∧ H' D = some (.lst (as.map V.ref)) ∧
  ∀ (j : Nat) (a : Addr) (x : List V), as[j]? = some a → rows[j]? = some x → H' a = some (.lst x)
theorem nd_snoc {α : Type} {l : List α} {x : α} (h : l.Nodup) (hx : x ∉ l) : (l ++ [x]).Nodup := by
  rw [List.nodup_append]
  refine ⟨h, by simp, fun a ha b hb => ?_⟩
  rw [List.mem_singleton] at hb
  subst hb
  exact fun e => hx (e ▸ ha)
theorem rw_turn {H H' : Hp} {rows : List (List V)} {D : Addr} {i : Nat} {σ2 : L2.St} {te : TE} {x : List V} (p : Rw H rows D i H') (hi : i < 50000) (hx : rows[i]? = some x) (he : EvL te σ2 H x) :
    te σ2 H' fun y H4 => ∃ acc, H4 D = some (.lst acc) ∧ acc.length < sizeLine ∧ Rw H rows D (i + 1) (upd H4 D (.lst (acc ++ [y]))) := by
  obtain ⟨nD, e1, as, hl, nd, nDa, fr, hD, hr⟩ := p
  refine he H' e1 _ fun a H4 na e2 ha => ⟨_, e2 _ _ hD, sz_lt (by rw [List.length_map]; omega), nD, Ex.mut (e1.trans e2) nD, as ++ [a], by rw [List.length_append, hl]; rfl, nd_snoc nd ?_, ?_, ?_, ?_, ?_⟩
  · intro m
    obtain ⟨j, hj⟩ := List.getElem?_of_mem m
    have hjl := (List.getElem?_eq_some_iff.mp hj).1
    have hil := (List.getElem?_eq_some_iff.mp hx).1
    have q := hr j a _ hj (List.getElem?_eq_getElem (by omega : j < rows.length))
    rw [na] at q
    cases q
  · intro m
    rcases List.mem_append.mp m with m | m
    · exact nDa m
    · rw [List.mem_singleton] at m
      rw [← m, hD] at na
      cases na
  · intro b hb
    rcases List.mem_append.mp hb with hb | hb
    · exact fr b hb
    · rw [List.mem_singleton] at hb
      rw [hb]
      exact fresh_back e1 na
  · rw [List.map_append]
    exact upd_same
  · intro j b y hj hy
    by_cases h : j < as.length
    · rw [List.getElem?_append_left h] at hj
      have bD : b ≠ D := fun z => nDa (z ▸ List.mem_of_getElem? hj)
      rw [upd_ne bD]
      exact e2 _ _ (hr j b y hj hy)
    · rw [List.getElem?_append_right (by omega)] at hj
      have e0 : j = i := by
        have := (List.getElem?_eq_some_iff.mp hj).1
        simp at this
        omega
      subst e0
      rw [hl, Nat.sub_self] at hj
      cases hj
      rw [hx] at hy
      cases hy
      have bD : a ≠ D := fun z => by
        rw [z, hD] at na
        cases na
      rw [upd_ne bD]
      exact ha
section
variable {K : PySem.W.Frag} {σ : L2.St} {H H' : Hp} {te : TE} {rows : List (List V)}
theorem Rw.out {D : Addr} {H1 : Hp} {Q : VK} (e1 : Ex H H1) (q : ∀ (p : Addr) (as : List Addr) H2, newAll H p as → as.Nodup → Ex H H2 → H2 p = some (.lst (as.map V.ref)) → as.length = rows.length →
    (∀ (i : Nat) (a : Addr) (x : List V), as[i]? = some a → rows[i]? = some x → H2 a = some (.lst x)) → Q (.ref p) H2) {H2 : Hp} (p : Rw H1 rows D rows.length H2) : Q (.ref D) H2 := by
  obtain ⟨nD, e2, as, hl, nd, nDa, fr, hD, hr⟩ := p
  exact q D as H2 ⟨fresh_back e1 nD, fun a ha => fresh_back e1 (fr a ha)⟩ nd (e1.trans e2) hD hl hr
theorem er_lcR1 {ta : TA} {j : Nat} {vs : List Nat} {n : Nat} (h : EvA ta σ H [.int (n : Int)]) (hn : n ≤ 40000) (hl : rows.length = n) (hw : ∀ x, wipe ((wipe σ vs).set j (some x)) vs = wipe σ vs)
    (he : ∀ (i : Nat) (x : List V) H1, Ex H H1 → rows[i]? = some x → EvL te ((wipe σ vs).set j (some (.int (i : Int)))) H1 x) : EvR (tLc (iRng1 ta) (gName j) tYes te vs) σ H rows := fun H0 e Q q => h H0 e _ fun H1 e1 => ⟨(n : Int), rfl, by omega, by omega, fun D nD =>
  lc_range (lo := 0) (n := (n : Int).toNat) (Rw H1 rows D) ⟨nD, Ex.new nD, [], rfl, List.nodup_nil, by simp, by simp, upd_same, fun j a x hj _ => by cases hj⟩ (fun i H' hi p => by
    have e0 : (0 : Int) + (i : Int) = (i : Int) := Int.zero_add _
    rw [e0]
    have hi' : i < rows.length := by omega
    exact ⟨hw _, rw_turn p (by omega) (List.getElem?_eq_getElem hi') (he i _ H1 (e.trans e1) (List.getElem?_eq_getElem hi'))⟩) (fun H' p => by
    have e2 : (n : Int).toNat = rows.length := by omega
    rw [e2] at p
    exact Rw.out e1 q p)⟩
theorem er_lcL {a : Addr} {xs : List V} {tl : TE} {j : Nat} {vs : List Nat} (h : Ev tl σ H (.ref a)) (hx : SqL K H a xs) (hz : xs.length ≤ 40000) (hl : rows.length = xs.length) (hw : ∀ x, wipe ((wipe σ vs).set j (some x)) vs = wipe σ vs)
    (he : ∀ (i : Nat) (v : V) (x : List V) H1, Ex H H1 → xs[i]? = some v → rows[i]? = some x → EvL te ((wipe σ vs).set j (some v)) H1 x) : EvR (tLc (iList K tl) (gName j) tYes te vs) σ H rows := fun H0 e Q q => h H0 e _ fun H1 e1 => ⟨a, rfl, ⟨xs, ex_l (e.trans e1) hx⟩, fun D nD =>
  lc_list (xs := xs) (Rw H1 rows D) ⟨nD, Ex.new nD, [], rfl, List.nodup_nil, by simp, by simp, upd_same, fun j a x hj _ => by cases hj⟩ (fun i H' _ p => ex_l ((e.trans e1).trans p.2.1) hx) (fun i v H' hv p => by
    have hi' : i < rows.length := by
      rw [hl]
      exact (List.getElem?_eq_some_iff.mp hv).1
    exact ⟨hw _, rw_turn p (by omega) (List.getElem?_eq_getElem hi') (he i v _ H1 (e.trans e1) hv (List.getElem?_eq_getElem hi'))⟩) (fun H' p => by
    rw [← hl] at p
    exact Rw.out e1 q p)⟩
/-- as rows of numbers -/
theorem er_rows {R : List (List Nat)} (h : EvR te σ H (R.map nI)) : ∀ H1, Ex H H1 → ∀ Q : VK, (∀ (p : Addr) (as : List Addr) H2, newAll H1 p as → as.Nodup → Ex H1 H2 → RowsAt H2 p as R → Q (.ref p) H2) → te σ H1 Q := fun H1 e Q q =>
  h H1 e Q fun p as H2 n nd e2 hp hl hr => q p as H2 n nd e2 ⟨hp, by rw [hl, List.length_map], fun i a x ha hx => hr i a (nI x) ha (by rw [List.getElem?_map, hx]; rfl)⟩
end
theorem given_yes_all (n : Nat) (v : Nat → V) : given n (fun _ => true) v = (List.range n).map v := by
  unfold given
  rw [List.filter_eq_self.mpr fun _ _ => rfl]
theorem range_map {xs ys : List V} {v : Nat → V} (hl : ys.length = xs.length) (h : ∀ (i : Nat) (y : V), ys[i]? = some y → v i = y) : (List.range xs.length).map v = ys := by
  refine List.ext_getElem (by simp [hl]) fun i h1 h2 => ?_
  rw [List.getElem_map, List.getElem_range]
  exact h i _ (List.getElem?_eq_getElem h2)
theorem range_mapN {n : Nat} {ys : List V} {v : Nat → V} (hl : ys.length = n) (h : ∀ (i : Nat) (y : V), ys[i]? = some y → v i = y) : (List.range n).map v = ys := by
  refine List.ext_getElem (by simp [hl]) fun i h1 h2 => ?_
  rw [List.getElem_map, List.getElem_range]
  exact h i _ (List.getElem?_eq_getElem h2)
section
variable {K : PySem.W.Frag} {σ : L2.St} {H : Hp} {te tl : TE}
/-- [e for x in xs], each a value -/
theorem el_map {a : Addr} {xs ys : List V} {j : Nat} {vs : List Nat} (h : Ev tl σ H (.ref a)) (hx : SqL K H a xs) (hz : xs.length ≤ 40000) (hl : ys.length = xs.length) (hw : ∀ x, wipe ((wipe σ vs).set j (some x)) vs = wipe σ vs)
    (he : ∀ (i : Nat) (v y : V) H1, Ex H H1 → xs[i]? = some v → ys[i]? = some y → Ev te ((wipe σ vs).set j (some v)) H1 y) : EvL (tLc (iList K tl) (gName j) tYes te vs) σ H ys := by
  have g := el_lcL (K := K) (t := tYes) (te := te) (fun _ => true) (fun i => ys.getD i .non) h hx hz hw (fun i x H1 _ _ => fun H2 _ Q q => q H2 (Ex.refl H2)) (fun i v H1 e hv _ => by
    have hi : i < ys.length := by
      rw [hl]
      exact (List.getElem?_eq_some_iff.mp hv).1
    have hy : ys[i]? = some ys[i] := List.getElem?_eq_getElem hi
    have e2 : ys.getD i .non = ys[i] := by rw [List.getD_eq_getElem?_getD, hy]; rfl
    rw [e2]
    exact he i v _ H1 e hv hy)
  rw [given_yes_all, range_map hl fun i y hy => by rw [List.getD_eq_getElem?_getD, hy]; rfl] at g
  exact g
theorem el_mapR {ta : TA} {ys : List V} {j : Nat} {vs : List Nat} {n : Nat} (h : EvA ta σ H [.int (n : Int)]) (hn : n ≤ 40000) (hl : ys.length = n) (hw : ∀ x, wipe ((wipe σ vs).set j (some x)) vs = wipe σ vs)
    (he : ∀ (i : Nat) (y : V) H1, Ex H H1 → ys[i]? = some y → Ev te ((wipe σ vs).set j (some (.int (i : Int)))) H1 y) : EvL (tLc (iRng1 ta) (gName j) tYes te vs) σ H ys := by
  have g := el_lcR1 (t := tYes) (te := te) (fun _ => true) (fun i => ys.getD i .non) h ⟨by omega, by omega⟩ hw (fun i H1 _ _ => fun H2 _ Q q => q H2 (Ex.refl H2)) (fun i H1 e hi _ => by
    have hi : i < ys.length := by omega
    have hy : ys[i]? = some ys[i] := List.getElem?_eq_getElem hi
    have e2 : ys.getD i .non = ys[i] := by rw [List.getD_eq_getElem?_getD, hy]; rfl
    rw [e2]
    exact he i _ H1 e hy)
  rw [Int.toNat_natCast, given_yes_all, range_mapN hl fun i y hy => by rw [List.getD_eq_getElem?_getD, hy]; rfl] at g
  exact g
/-- [x for x in range(n) if x in ..] and the like: the numbers that f picks -/
theorem el_pickR {ta : TA} {t : TT} {j : Nat} {vs : List Nat} {n : Nat} (f : Nat → Bool) (h : EvA ta σ H [.int (n : Int)]) (hn : n ≤ 40000) (hw : ∀ x, wipe ((wipe σ vs).set j (some x)) vs = wipe σ vs)
    (ht : ∀ (i : Nat) H1, Ex H H1 → i < n → EvT t ((wipe σ vs).set j (some (.int (i : Int)))) H1 (f i)) (he : ∀ (i : Nat) H1, Ev te ((wipe σ vs).set j (some (.int (i : Int)))) H1 (.int (i : Int))) : EvL (tLc (iRng1 ta) (gName j) t te vs) σ H (nI ((List.range n).filter f)) := by
  have g := el_lcR1 (t := t) (te := te) f (fun i => .int (i : Int)) h ⟨by omega, by omega⟩ hw (fun i H1 e hi => ht i H1 e (by omega)) (fun i H1 e hi _ => he i H1)
  rw [Int.toNat_natCast] at g
  exact g
end
end K28
end
section
namespace K28
open PySem PySem.Spec L2 PyProof.Rows Evl
section
variable {P : Program} {K : PySem.W.Frag} {mg : Str → Option Value} {H : Hp} {σ : L2.St} {te to : TE} {t r : Addr} {n : Nat} {as : List Addr} {R : List (List Nat)} {E : XK}
theorem in_all {n : Nat} {l : List Nat} (h : ∀ x ∈ l, x < n) : ∀ x ∈ l.map (fun (n : Nat) => (n : Int)), 0 ≤ x ∧ x < (n : Int) := fun x hx => by
  obtain ⟨y, hy, rfl⟩ := List.mem_map.mp hx
  have := h y hy
  omega
theorem no_bad {n : Nat} {l : List Nat} (h : ∀ x ∈ l, x < n) {d : Int} (b : FirstBad n (l.map fun (n : Nat) => (n : Int)) d) : False := by
  obtain ⟨i, hi, nb, _⟩ := b
  exact nb (in_all h d (List.mem_of_getElem? hi))
/-- self.check([..]), all in range -/
theorem ev_checkL (h : TblAt K H t n r as R) (ho : Ev to σ H (.ref t)) {l : List Nat} (he : EvL te σ H (nI l)) (hl : ∀ x ∈ l, x < n) : Ev (tMeth (cTab K) "check" (sp_Tcheck K) [] E to (tCons te tNil)) σ H .non := fun H1 e Q q =>
  ho H1 e _ fun H2 e2 => by
    obtain ⟨dx, hi⟩ := h.ins
    refine ⟨t, dx, _, rfl, e2 _ _ (e _ _ hi), rfl, he H2 (e.trans e2) _ fun v H3 nv e3 hv => ?_⟩
    refine ⟨t, v, dx, r, n, l.map fun (n : Nat) => (n : Int), rfl, e3 _ _ (e2 _ _ (e _ _ hi)), .inl (sq_of (by rw [← nI_map]; exact hv)), fun _ H4 e4 => q H4 ((e2.trans e3).trans e4), fun d b => (no_bad hl b).elim⟩
end
theorem r_Tgetitem {P : Program} {K : PySem.W.Frag} {mg : Str → Option Value} (T : Txt P K mg) : ∀ vs H Q E, sp_Tgetitem K vs H Q E → t_Tgetitem K E (EndsK Q) (L2.start n_Tgetitem vs) H := by
  rintro vs H Q E ⟨t, p, r, as, R, n, a, b, rfl, h, ha, hb, hp, q⟩
  refine ⟨.ref p, rfl, p, _, rfl, st_of hp, rfl, .int (a : Int), [.int (b : Int)], rfl, .int (b : Int), [], rfl, rfl, ?_⟩
  refine q_drop (ev_checkL h (ev_var rfl) (el_lst (v2 (x := a) (y := b) (ev_var rfl) (ev_var rfl)) (by show 2 ≤ 100000; decide)) fun x hx => ?_) fun H1 e1 => ?_
  · simp only [List.mem_cons, List.mem_nil_iff, or_false] at hx
    rcases hx with rfl | rfl <;> assumption
  · have h1 := h.ex e1
    exact s_ret (ev_cell h1.rows h.ok ha hb (ev_rows T h1 (ev_var rfl)) (ev_var rfl) (ev_var rfl)) fun H2 e2 => q H2 (e1.trans e2)
theorem r_Tsetitem {P : Program} {K : PySem.W.Frag} {mg : Str → Option Value} (T : Txt P K mg) : ∀ vs H Q E, sp_Tsetitem K vs H Q E → t_Tsetitem K E (EndsK Q) (L2.start n_Tsetitem vs) H := by
  rintro vs H Q E ⟨t, p, r, ra, as, R, n, a, b, c, rfl, h, ha, hb, hc, hp, hra, q⟩
  refine ⟨.ref p, rfl, p, _, rfl, st_of hp, rfl, .int (a : Int), [.int (b : Int)], rfl, .int (b : Int), [], rfl, rfl, ?_⟩
  refine q_drop (ev_checkL h (ev_var rfl) (el_lst (v3 (x := a) (y := b) (z := c) (ev_var rfl) (ev_var rfl) (ev_var rfl)) (by show 3 ≤ 100000; decide)) fun x hx => ?_) fun H1 e1 => ?_
  · simp only [List.mem_cons, List.mem_nil_iff, or_false] at hx
    rcases hx with rfl | rfl | rfl <;> assumption
  · have h1 := h.ex e1
    have row := h1.rows.row a ra _ hra (h.ok.row_at ha).1
    refine s_setL (l := ra) (xs := nI (R.getD a [])) (j := b) (v := .int (c : Int)) row (ev_var rfl) (ev_row h1.rows h.ok (ev_rows T h1 (ev_var rfl)) (ev_var rfl) hra) (ev_var rfl) (by rw [nI_len, (h.ok.row_at ha).2]; exact hb) fun H2 e2 => ?_
    have g := q H2 (e1.trans e2)
    have e : nI ((R.getD a []).set b c) = (nI (R.getD a [])).set b (.int (c : Int)) := by
      unfold nI
      rw [List.map_set]
    rw [e] at g
    exact g
/-! ### texts -/
theorem app_len (a b : Str) : (a ++ b).length = a.length + b.length := by
  show (a.cps ++ b.cps).size = _
  exact Array.size_append
theorem glue_len (sep : Str) : ∀ (ts : List Str) (acc : Array Nat), (ts.foldl (fun acc p => acc ++ sep.cps ++ p.cps) acc).size = acc.size + (ts.map (·.length)).sum + ts.length * sep.length
  | [], acc => by simp
  | t :: ts, acc => by
    rw [List.foldl_cons, glue_len sep ts, Array.size_append, Array.size_append, List.map_cons, List.sum_cons, List.length_cons, Nat.succ_mul]
    show acc.size + sep.length + t.length + _ + _ = _
    omega
theorem join_le (sep : Str) (ts : List Str) : (Txt.join sep ts).length ≤ (ts.map (·.length)).sum + ts.length * sep.length := by
  cases ts with
  | nil =>
    rw [List.map_nil, List.sum_nil, List.length_nil, Nat.zero_mul]
    exact Nat.le_refl _
  | cons t ts =>
    show (ts.foldl (fun acc p => acc ++ sep.cps ++ p.cps) t.cps).size ≤ _
    rw [glue_len, List.map_cons, List.sum_cons, List.length_cons, Nat.succ_mul]
    show t.length + _ + _ ≤ _
    omega
theorem sum_le {α : Type} (f : α → Nat) (B : Nat) : ∀ l : List α, (∀ x ∈ l, f x ≤ B) → (l.map f).sum ≤ l.length * B
  | [], _ => Nat.zero_le _
  | x :: l, h => by
    rw [List.map_cons, List.sum_cons, List.length_cons, Nat.succ_mul]
    have h1 := h x List.mem_cons_self
    have h2 := sum_le f B l fun y hy => h y (List.mem_cons_of_mem _ hy)
    omega
theorem row_len {l : List Nat} (hl : l.length ≤ 7) (h : ∀ x ∈ l, x < 7) : ((l.map numS).map (·.length)).sum + (l.map numS).length * (" " : Str).length ≤ 30 := by
  have h1 := sum_le (fun s : Str => s.length) 2 (l.map numS) fun s hs => by
    obtain ⟨x, hx, rfl⟩ := List.mem_map.mp hs
    exact num_len x (by have := h x hx; omega)
  have h2 : (" " : Str).length = 1 := by decide +kernel
  rw [h2]
  rw [List.length_map] at h1 ⊢
  omega
theorem rows_len {n : Nat} {R : List (List Nat)} (ok : TabOk n R) (hn : n ≤ 7) : ((R.map rowText).map (·.length)).sum + (R.map rowText).length * ("\n" : Str).length ≤ 1000 := by
  have h1 := sum_le (fun s : Str => s.length) 30 (R.map rowText) fun s hs => by
    obtain ⟨x, hx, rfl⟩ := List.mem_map.mp hs
    obtain ⟨k1, k2⟩ := ok.row x hx
    exact Nat.le_trans (join_le _ _) (row_len (by omega) fun y hy => by have := k2 y hy; omega)
  have h2 : ("\n" : Str).length = 1 := by decide +kernel
  rw [h2]
  rw [List.length_map, ok.len] at h1 ⊢
  omega
section
variable {K : PySem.W.Frag} {H : Hp} {σ : L2.St} {te to : TE} {tr : TE}
theorem ev_join {a : Str} {ys : List Str} (ho : Ev to σ H (.str a)) (he : EvL te σ H (ys.map V.str)) (hz : (ys.map (·.length)).sum + ys.length * a.length ≤ 16777216) : Ev (tM1 (rJoinK K) to te) σ H (.str (Txt.join a ys)) := fun H1 e Q q =>
  ho H1 e _ fun H2 e2 => ⟨⟨a, rfl⟩, he H2 (e.trans e2) _ fun p H3 np e3 hp => ⟨a, p, ys, rfl, rfl, .inl (sq_of hp), hz, q H3 (e2.trans e3)⟩⟩
theorem ev_num {x : Nat} (h : Ev te σ H (.int (x : Int))) (hx : x < 10) : Ev (tCB rStrI (tCons te tNil)) σ H (.str (numS x)) := ev_cb (ea_cons h ea_nil) fun H1 _ _ q => ⟨(x : Int), rfl, by
  rw [Int.natAbs_natCast]
  exact Nat.lt_of_le_of_lt (Nat.log2_le_self x) (by omega), q H1 (Ex.refl H1)⟩
/-- '\n'.join([' '.join([str(v) for v in row]) for row in rows]) -/
theorem ev_text {r : Addr} {as : List Addr} {R : List (List Nat)} {n i j : Nat} (hr : RowsAt H r as R) (ok : TabOk n R) (hn : n ≤ 7) (h : Ev tr σ H (.ref r)) (hw1 : ∀ x, wipe ((wipe σ [i]).set i (some x)) [i] = wipe σ [i])
    (hi : ∀ x : V, ((wipe σ [i]).set i (some x))[i]? = some (some x)) (hw2 : ∀ x y, wipe ((wipe ((wipe σ [i]).set i (some x)) [j]).set j (some y)) [j] = wipe ((wipe σ [i]).set i (some x)) [j])
    (hj : ∀ x y : V, ((wipe ((wipe σ [i]).set i (some x)) [j]).set j (some y))[j]? = some (some y)) :
    Ev (tM1 (rJoinK K) (tC (.str "\n")) (tLc (iList K tr) (gName i) tYes (tM1 (rJoinK K) (tC (.str " ")) (tLc (iList K (tVar i)) (gName j) tYes (tCB rStrI (tCons (tVar j) tNil)) [j])) [i])) σ H (.str (rowsText R)) := by
  refine ev_join ev_c ?_ (Nat.le_trans (rows_len ok hn) (by decide))
  refine el_map h (sq_of hr.at_) (by rw [List.length_map, hr.len, ok.len]; omega) (by rw [List.length_map, List.length_map, List.length_map, hr.len]) hw1 fun k v y H1 e1 hv hy => ?_
  rw [List.getElem?_map] at hv
  cases hk : as[k]? with
  | none =>
    rw [hk] at hv
    cases hv
  | some a =>
    rw [hk] at hv
    cases hv
    rw [List.getElem?_map, List.getElem?_map] at hy
    cases hx : R[k]? with
    | none =>
      rw [hx] at hy
      cases hy
    | some x =>
      rw [hx] at hy
      cases hy
      obtain ⟨k1, k2⟩ := ok.row x (List.mem_of_getElem? hx)
      refine ev_join ev_c ?_ (Nat.le_trans (row_len (l := x) (by omega) fun y hy => by have := k2 y hy; omega) (by decide))
      refine el_map (xs := nI x) (a := a) (ev_var (hi _)) (sq_of (e1 _ _ (hr.row k a x hk hx))) (by rw [nI_len]; omega) (by rw [List.length_map, List.length_map, nI_len]) (hw2 _) fun m v y H2 e2 hv hy => ?_
      obtain ⟨z, hz, rfl⟩ := nI_of hv
      rw [List.getElem?_map, List.getElem?_map, hz] at hy
      cases hy
      exact ev_num (ev_var (hj _ _)) (by have := k2 z (List.mem_of_getElem? hz); omega)
end
theorem r_Tstr {P : Program} {K : PySem.W.Frag} {mg : Str → Option Value} (T : Txt P K mg) : ∀ vs H Q E, sp_Tstr K vs H Q E → t_Tstr K (EndsK Q) (L2.start n_Tstr vs) H := by
  rintro vs H Q E ⟨t, r, as, R, n, rfl, h, q⟩
  exact s_ret (ev_text h.rows h.ok h.sm (ev_rows T h (ev_var rfl)) (fun _ => rfl) (fun _ => rfl) (fun _ _ => rfl) (fun _ _ => rfl)) q
theorem r_law_rows_text {K : PySem.W.Frag} : ∀ vs H Q E, sp_law_rows_text K vs H Q E → t_law_rows_text K (EndsK Q) (L2.start n_law_rows_text vs) H := by
  rintro vs H Q E ⟨r, as, R, n, rfl, hn, hr, ok, q⟩
  exact s_ret (ev_text hr ok hn (ev_var rfl) (fun _ => rfl) (fun _ => rfl) (fun _ _ => rfl) (fun _ _ => rfl)) q
end K28
end
section
namespace K28
open PySem PySem.Spec L2 PyProof.Rows Evl
theorem put0 (n : Int) : putF "size" (V.int n) [] = [(("size" : Str), V.int n)] := rfl
theorem put1 (n : Int) (v : V) : putF "rows" v [(("size" : Str), V.int n)] = [(("size" : Str), V.int n), (("rows" : Str), v)] := rfl
theorem put2 (n : Int) (v w : V) : putF "rows" v [(("size" : Str), V.int n), (("rows" : Str), w)] = [(("size" : Str), V.int n), (("rows" : Str), v)] := rfl
theorem fr_upd {H H1 : Hp} {t : Addr} {o : HO} (e : Fr (fun a => a = t) H H1) : Fr (fun a => a = t) H (upd H1 t o) := fun b u hb nb => by
  rw [upd_ne nb]
  exact e b u hb nb
theorem upd_twice {H : Hp} {a : Addr} {o o' : HO} : upd (upd H a o) a o' = upd H a o' := by
  funext b
  by_cases h : b = a
  · rw [h, upd_same, upd_same]
  · rw [upd_ne h, upd_ne h, upd_ne h]
theorem s_fld {K : PySem.W.Frag} {σ : L2.St} {H : Hp} {to te : TE} {D : Ends} {tz : TS} {t dx : Addr} {fs : List (Str × V)} {f : Str} {v : V} (c : Cls K (cTab K)) (na : NoAttr K (cTab K) f) (he : Ev te σ H v) (ho : Ev to σ H (.ref t)) (hi : H t = some (.ins (cTab K) dx fs)) (hl : fs.length < 1000)
    (k : ∀ H1, Ex H H1 → tz D σ (upd H1 t (.ins (cTab K) dx (putF f v fs)))) : tSeq (sFld K to te f) tz D σ H := he H (Ex.refl H) _ fun H1 e1 => ho H1 e1 _ fun H2 e2 =>
  ⟨t, cTab K, dx, fs, rfl, (e1.trans e2) _ _ hi, c, na, hl, k H2 (e1.trans e2)⟩
theorem zeros_row {n i : Nat} {x : List V} (h : ((List.replicate n (List.replicate n 0)).map nI)[i]? = some x) : x = nI (List.replicate n 0) := by
  rw [List.getElem?_map] at h
  cases e : (List.replicate n (List.replicate n 0))[i]? with
  | none =>
    rw [e] at h
    cases h
  | some y =>
    rw [e] at h
    cases h
    rw [(List.mem_replicate.mp (List.mem_of_getElem? e)).2]
theorem r_Tinit {P : Program} {K : PySem.W.Frag} {mg : Str → Option Value} (T : Txt P K mg) : ∀ vs H Q E, sp_Tinit K vs H Q E → t_Tinit K E (EndsK Q) (L2.start n_Tinit vs) H := by
  rintro vs H Q E ⟨t, dx, n, v, rfl, hn1, hn7, ht, way⟩
  have ask : EvT (tNot (tTest (tChain rLeK rLeK (tC (.int 1)) (tVar 1) (tC (.int 60))))) (L2.start n_Tinit [.ref t, .int (n : Int), v]) H false := fun H1 e Q2 q2 => by
    refine ⟨_, rfl, 1, (n : Int), rfl, rfl, true, ?_, ?_⟩
    · show V.bl (decide ((1 : Int) ≤ (n : Int))) = _
      rw [decide_eq_true (by omega)]
    · refine iteT ⟨(n : Int), 60, rfl, rfl, true, ?_, q2 H1 (Ex.refl H1)⟩
      show V.bl (decide ((n : Int) ≤ 60)) = _
      rw [decide_eq_true (by omega)]
  refine q_when ask (fun hb => by cases hb) (fun _ H1 e1 => ?_)
  refine s_fld T.cls T.size (ev_var (i := 1) rfl) (ev_var (i := 0) rfl) (e1 _ _ ht) (by show 0 < 1000; decide) fun H2 e2 => ?_
  rw [put0]
  refine s_fld T.cls T.rows (ev_var (i := 2) rfl) (ev_var (i := 0) rfl) upd_same (by show 1 < 1000; decide) fun H3 e3 => ?_
  rw [put1]
  have f3 : Fr (fun a => a = t) H (upd H3 t (.ins (cTab K) dx [("size", .int (n : Int)), ("rows", v)])) := fr_upd ((fr_upd (fr_of (e1.trans e2))).ex e3)
  rcases way with ⟨r, rfl, q⟩ | ⟨rfl, q⟩
  · refine s_when (et_isN (ev_var rfl)) (fun hb => ?_) (fun _ H4 e4 => q H4 (f3.ex e4) (e4 _ _ upd_same))
    have z := of_decide_eq_true hb
    cases z
  · refine s_if (et_isN (ev_var rfl)) (fun _ H4 e4 => ?_) (fun hb => absurd rfl (of_decide_eq_false hb))
    have rows : EvR (tLc (iRng1 (tCons (tVar 1) tNil)) (gName 3) tYes (tLc (iRng1 (tCons (tVar 1) tNil)) (gName 4) tYes (tC (.int 0)) [4]) [3]) (L2.start n_Tinit [.ref t, .int (n : Int), .non]) H4 ((List.replicate n (List.replicate n 0)).map nI) := by
      refine er_lcR1 (n := n) (ea_cons (ev_var rfl) ea_nil) (by omega) (by rw [List.length_map, List.length_replicate]) (fun _ => rfl) fun i x H5 e5 hx => ?_
      rw [zeros_row hx]
      refine el_mapR (n := n) (ea_cons (ev_var rfl) ea_nil) (by omega) (by rw [nI_len, List.length_replicate]) (fun _ => rfl) fun j y H6 e6 hy => ?_
      obtain ⟨z, hz, rfl⟩ := nI_of hy
      rw [(List.mem_replicate.mp (List.mem_of_getElem? hz)).2]
      exact ev_c
    refine er_rows rows H4 (Ex.refl H4) _ fun p as H5 nw nd e5 hr => ?_
    refine ⟨.ref t, rfl, t, cTab K, dx, _, rfl, e5 _ _ (e4 _ _ upd_same), T.cls, T.rows, by show 2 < 1000; decide, ?_⟩
    rw [put2]
    have f5 : Fr (fun a => a = t) H H5 := (f3.ex e4).ex e5
    have tn : ∀ {b : Addr} {o : HO}, H5 b = some o → (∀ C d f, o ≠ .ins C d f) → b ≠ t := fun {b o} hb no z => by
      rw [z, e5 _ _ (e4 _ _ upd_same)] at hb
      cases hb
      exact no _ _ _ rfl
    have nt : ∀ {b : Addr}, H4 b = none → H b = none := fun {b} hb => free_fr (f3.ex e4) hb fun z => by
      rw [z, e4 _ _ upd_same] at hb
      cases hb
    refine q _ p as (fr_upd f5) upd_same ⟨nt nw.1, fun a ha => nt (nw.2 a ha)⟩ nd ⟨?_, hr.len, fun i a x ha hx => ?_⟩
    · rw [upd_ne (tn hr.at_ fun _ _ _ z => by cases z)]
      exact hr.at_
    · have h := hr.row i a x ha hx
      rw [upd_ne (tn h fun _ _ _ z => by cases z)]
      exact h
end K28
end
section
namespace K28
open PySem PySem.Spec L2 PyProof.Rows Evl
/-! ### one entry changed -/
theorem op_set {n : Nat} {R : List (List Nat)} (ok : TabOk n R) {a b c i j : Nat} (ha : a < n) (hb : b < n) (hi : i < n) (hj : j < n) : opOf (setE R a b c) i j = if i = a ∧ j = b then c else opOf R i j := by
  have hla : a < R.length := by rw [ok.len]; exact ha
  have hlb : b < (R.getD a []).length := by rw [(ok.row_at ha).2]; exact hb
  have geta : ∀ (l : List (List Nat)) (k : Nat), l.getD k [] = (l[k]?).getD [] := fun l k => List.getD_eq_getElem?_getD
  have getb : ∀ (l : List Nat) (k : Nat), l.getD k 0 = (l[k]?).getD 0 := fun l k => List.getD_eq_getElem?_getD
  unfold opOf setE
  by_cases e : i = a
  · subst e
    rw [geta (R.set i _), List.getElem?_set_self hla]
    show (((R.getD i []).set b c).getD j 0) = _
    by_cases e2 : j = b
    · subst e2
      rw [getb, List.getElem?_set_self hlb, if_pos ⟨rfl, rfl⟩]
      rfl
    · rw [getb, List.getElem?_set_ne (Ne.symm e2), if_neg (fun h => e2 h.2), ← getb]
  · rw [geta (R.set a _), List.getElem?_set_ne (Ne.symm e), if_neg (fun h => e h.1), ← geta]
theorem tab_ext {n : Nat} {R R' : List (List Nat)} (ok : TabOk n R) (ok' : TabOk n R') (h : ∀ i j, i < n → j < n → opOf R i j = opOf R' i j) : R = R' := by
  refine List.ext_getElem (by rw [ok.len, ok'.len]) fun i h1 h2 => ?_
  have hi : i < n := by rw [← ok.len]; exact h1
  have r1 := ok.row_at hi
  have r2 := ok'.row_at hi
  have e1 : R[i] = R.getD i [] := by
    have := r1.1
    rw [List.getElem?_eq_getElem h1] at this
    exact Option.some.inj this
  have e2 : R'[i] = R'.getD i [] := by
    have := r2.1
    rw [List.getElem?_eq_getElem h2] at this
    exact Option.some.inj this
  rw [e1, e2]
  refine List.ext_getElem (by rw [r1.2, r2.2]) fun j h3 h4 => ?_
  have hj : j < n := by rw [← r1.2]; exact h3
  have g1 := ok.at_ hi hj
  have g2 := ok'.at_ hi hj
  rw [List.getElem?_eq_getElem h3] at g1
  rw [List.getElem?_eq_getElem h4] at g2
  rw [Option.some.inj g1, Option.some.inj g2, h i j hi hj]
theorem RowsAt.ne {H : Hp} {r x : Addr} {as : List Addr} {R : List (List Nat)} {n : Nat} (h : RowsAt H r as R) (ok : TabOk n R) (hn : 1 ≤ n) {l : List Nat} (hx : H x = some (.lst (nI l))) : r ≠ x := fun e => by
  have ha : 0 < as.length := by rw [h.len, ok.len]; omega
  have h1 := h.at_
  rw [e, hx] at h1
  have h2 : nI l = as.map V.ref := HO.lst.inj (Option.some.inj h1)
  cases as with
  | nil => simp at ha
  | cons a as =>
    cases l with
    | nil => cases h2
    | cons y l => cases h2
theorem RowsAt.set {H : Hp} {r ra : Addr} {as : List Addr} {R : List (List Nat)} {n a b c : Nat} (h : RowsAt H r as R) (ok : TabOk n R) (nd : as.Nodup) (ha : a < n) (hra : as[a]? = some ra) : RowsAt (upd H ra (.lst (nI ((R.getD a []).set b c)))) r as (setE R a b c) := by
  have hx := h.row a ra _ hra (ok.row_at ha).1
  have hla : a < R.length := by rw [ok.len]; exact ha
  refine ⟨?_, by rw [h.len]; unfold setE; rw [List.length_set], fun i x row hi hrow => ?_⟩
  · rw [upd_ne (h.ne ok (by omega) hx)]
    exact h.at_
  · unfold setE at hrow
    by_cases e : i = a
    · subst e
      rw [hra] at hi
      cases hi
      rw [List.getElem?_set_self hla] at hrow
      cases hrow
      exact upd_same
    · rw [List.getElem?_set_ne (Ne.symm e)] at hrow
      have nx : x ≠ ra := fun z => by
        subst z
        have h1 := (List.getElem?_eq_some_iff.mp hi).1
        have h2 := (List.getElem?_eq_some_iff.mp hra).1
        exact e ((List.getElem_inj nd).mp ((List.getElem?_eq_some_iff.mp hi).2.trans (List.getElem?_eq_some_iff.mp hra).2.symm))
      rw [upd_ne nx]
      exact h.row i x row hi hrow
theorem TblAt.set {K : PySem.W.Frag} {H : Hp} {t r ra : Addr} {as : List Addr} {R : List (List Nat)} {n a b c : Nat} (h : TblAt K H t n r as R) (ha : a < n) (hc : c < n) (hra : as[a]? = some ra) : TblAt K (upd H ra (.lst (nI ((R.getD a []).set b c)))) t n r as (setE R a b c) := by
  obtain ⟨dx, hi⟩ := h.ins
  have hx := h.rows.row a ra _ hra (h.ok.row_at ha).1
  refine ⟨⟨dx, ?_⟩, h.rows.set h.ok h.nd ha hra, h.ok.setE ha hc, h.nd, h.pos, h.sm⟩
  rw [upd_ne fun z => by rw [z, hx] at hi; cases hi]
  exact hi
section
variable {K : PySem.W.Frag} {H : Hp} {σ : L2.St} {te to ta tb : TE} {t r : Addr} {n a b : Nat} {as : List Addr} {R : List (List Nat)}
/-- t[a, b] -/
theorem ev_own (h : TblAt K H t n r as R) (ha : a < n) (hb : b < n) (ho : Ev to σ H (.ref t)) (h1 : Ev ta σ H (.int (a : Int))) (h2 : Ev tb σ H (.int (b : Int))) :
    Ev (tOwnGet (cTab K) (sp_Tgetitem K) E0 to (tTup (tCons ta (tCons tb tNil)))) σ H (.int (opOf R a b : Nat)) := fun H1 e Q q =>
  ho H1 e _ fun H2 e2 => eu_tup (ea_cons h1 (ea_cons h2 ea_nil)) (by show 2 ≤ 100000; decide) H2 (e.trans e2) _ fun p H3 np e3 hp => by
    have h3 := h.ex ((e.trans e2).trans e3)
    obtain ⟨dx, hi⟩ := h3.ins
    exact ⟨t, dx, _, rfl, hi, t, p, r, as, R, n, a, b, rfl, h3, ha, hb, hp, fun H4 e4 => q H4 ((e2.trans e3).trans e4)⟩
end
theorem r_law_rows_of_table {P : Program} {K : PySem.W.Frag} {mg : Str → Option Value} (T : Txt P K mg) : ∀ vs H Q E, sp_law_rows_of_table K vs H Q E → t_law_rows_of_table K (EndsK Q) (L2.start n_law_rows_of_table vs) H := by
  rintro vs H Q E ⟨t, r, as, R, n, rfl, h, q⟩
  refine er_rows (R := R) ?_ H (Ex.refl H) _ fun p as' H1 nw nd e hr => q H1 p as' e nw hr
  have hs := h.sm
  refine er_lcR1 (n := n) (ea_cons (ev_size T h (ev_var rfl)) ea_nil) (by omega) (by rw [List.length_map, h.ok.len]) (fun _ => rfl) fun a x H1 e1 hx => ?_
  rw [List.getElem?_map] at hx
  cases hR : R[a]? with
  | none =>
    rw [hR] at hx
    cases hx
  | some row =>
    rw [hR] at hx
    cases hx
    have ha : a < n := by
      rw [← h.ok.len]
      exact (List.getElem?_eq_some_iff.mp hR).1
    have hrow : row = R.getD a [] := by
      have := (h.ok.row_at ha).1
      rw [hR] at this
      exact Option.some.inj this
    subst hrow
    have h1 := h.ex e1
    refine el_mapR (n := n) (ea_cons (ev_size T h1 (ev_var rfl)) ea_nil) (by omega) (by rw [nI_len, (h.ok.row_at ha).2]) (fun _ => rfl) fun b y H2 e2 hy => ?_
    obtain ⟨z, hz, rfl⟩ := nI_of hy
    have hb : b < n := by
      rw [← (h.ok.row_at ha).2]
      exact (List.getElem?_eq_some_iff.mp hz).1
    have ez : z = opOf R a b := by
      have := h.ok.at_ ha hb
      rw [hz] at this
      exact Option.some.inj this
    rw [ez]
    exact ev_own (h1.ex e2) ha hb (ev_var rfl) (ev_var rfl) (ev_var rfl)
end K28
end
section
namespace K28
open PySem PySem.Spec L2 PyProof.Rows Evl
section
variable {K : PySem.W.Frag} {σ : L2.St} {H : Hp} {te tf : TE} {D : Ends} {tz : TS}
/-- f(e), e a new list -/
theorem el_callN {sp : Sp} {xs ys : List V} (h : EvL te σ H xs) (hs : ∀ p H1, Ex H H1 → H1 p = some (.lst xs) → ∀ Q : VK, (∀ q H2, H1 q = none → Ex H1 H2 → H2 q = some (.lst ys) → Q (.ref q) H2) → sp [.ref p] H1 Q E0) : EvL (tCall sp [] E0 (tCons te tNil)) σ H ys := fun H1 e Q q =>
  h H1 e _ fun p H2 np e2 hp => hs p H2 (e.trans e2) hp Q fun r H3 nr e3 hr => q r H3 (fresh_back e2 nr) (e2.trans e3) hr
theorem q_par {i j : Nat} {x y : V} (h1 : Ev te σ H x) (h2 : Ev tf σ H y) (k : ∀ H1, Ex H H1 → tz D ((σ.set i (some x)).set j (some y)) H1) : tSeq (tPar i j (tCons te (tCons tf tNil))) tz D σ H :=
  h1 H (Ex.refl H) _ fun H1 e1 => h2 H1 e1 _ fun H2 e2 => ⟨x, y, rfl, k H2 (e1.trans e2)⟩
theorem q_parL {i j : Nat} {xs : List V} {y : V} (h1 : EvL te σ H xs) (h2 : Ev tf σ H y) (k : ∀ p H1, H p = none → Ex H H1 → H1 p = some (.lst xs) → tz D ((σ.set i (some (.ref p))).set j (some y)) H1) : tSeq (tPar i j (tCons te (tCons tf tNil))) tz D σ H :=
  h1 H (Ex.refl H) _ fun p H1 np e1 hp => h2 H1 e1 _ fun H2 e2 => ⟨.ref p, y, rfl, k p H2 np (e1.trans e2) (e2 _ _ hp)⟩
theorem q_parLL {i j : Nat} {xs ys : List V} (h1 : EvL te σ H xs) (h2 : EvL tf σ H ys) (k : ∀ p q H1, H p = none → H q = none → p ≠ q → Ex H H1 → H1 p = some (.lst xs) → H1 q = some (.lst ys) → tz D ((σ.set i (some (.ref p))).set j (some (.ref q))) H1) : tSeq (tPar i j (tCons te (tCons tf tNil))) tz D σ H :=
  h1 H (Ex.refl H) _ fun p H1 np e1 hp => h2 H1 e1 _ fun q H2 nq e2 hq => ⟨.ref p, .ref q, rfl, k p q H2 np (fresh_back e1 nq) (fun z => by rw [z] at hp; rw [hp] at nq; cases nq) (e1.trans e2) (e2 _ _ hp) hq⟩
end
theorem toNat_back : ∀ {ns : List Int}, (∀ x ∈ ns, 0 ≤ x) → (ns.map Int.toNat).map (fun (n : Nat) => (n : Int)) = ns
  | [], _ => rfl
  | x :: ns, h => by
    rw [List.map_cons, List.map_cons, toNat_back fun y hy => h y (List.mem_cons_of_mem _ hy)]
    have h1 := h x List.mem_cons_self
    have e : ((x.toNat : Nat) : Int) = x := Int.toNat_of_nonneg h1
    rw [e]
theorem sort_nat {ns : List Int} {F : List Nat} (hp : ns.Perm (F.map fun (n : Nat) => (n : Int))) (hs : ns.Pairwise (· ≤ ·)) : ∃ L : List Nat, iI ns = nI L ∧ L.Perm F ∧ L.Pairwise (· ≤ ·) := by
  have pos : ∀ x ∈ ns, 0 ≤ x := fun x hx => by
    obtain ⟨y, _, rfl⟩ := List.mem_map.mp (hp.mem_iff.mp hx)
    omega
  have back := toNat_back pos
  refine ⟨ns.map Int.toNat, ?_, ?_, ?_⟩
  · rw [nI_map, back]
  · have h := hp.map Int.toNat
    rw [List.map_map] at h
    have e : (Int.toNat ∘ fun (n : Nat) => (n : Int)) = id := by
      funext n
      exact Int.toNat_natCast n
    rw [e, List.map_id] at h
    exact h
  · rw [List.pairwise_map]
    exact hs.imp fun h => Int.toNat_le_toNat h
section
variable {K : PySem.W.Frag} {H : Hp} {σ : L2.St} {tv : TE}
/-- sorted([int(x) for x in found]) -/
theorem ev_sorted {g : Addr} {F : List Nat} {j : Nat} (hg : H g = some (.lst (nI F))) (hF : F.length < 64) (h : Ev tv σ H (.ref g)) (hw : ∀ x, wipe ((wipe σ [j]).set j (some x)) [j] = wipe σ [j]) (hj : ∀ x : V, ((wipe σ [j]).set j (some x))[j]? = some (some x)) :
    ∀ H1, Ex H H1 → ∀ Q : VK, (∀ p H2 L, H1 p = none → Ex H1 H2 → H2 p = some (.lst (nI L)) → L.Perm F → L.Pairwise (· ≤ ·) → Q (.ref p) H2) → tCB (rSorted K) (tCons (tLc (iList K tv) (gName j) tYes (tCB rInt1 (tCons (tVar j) tNil)) [j]) tNil) σ H1 Q := fun H1 e Q q => by
  have cp : EvL (tLc (iList K tv) (gName j) tYes (tCB rInt1 (tCons (tVar j) tNil)) [j]) σ H (nI F) := by
    refine el_map h (sq_of hg) (by rw [nI_len]; omega) rfl hw fun i v y H2 e2 hv hy => ?_
    rw [hv] at hy
    cases hy
    obtain ⟨z, hz, rfl⟩ := nI_of hv
    exact ev_int1 (ev_var (hj _))
  show tLc (iList K tv) (gName j) tYes (tCB rInt1 (tCons (tVar j) tNil)) [j] σ H1 fun x H2 => rSorted K [x] H2 Q
  refine cp H1 e _ fun a H2 na e2 ha => ⟨a, F.map fun (n : Nat) => (n : Int), rfl, sq_of (by
    rw [nI_map] at ha
    exact ha), by rw [List.length_map]; exact hF, fun ns p hp hs np => ?_⟩
  obtain ⟨L, eL, hL, sL⟩ := sort_nat hp hs
  refine q p _ L (fresh_back e2 np) (e2.trans (Ex.new np)) ?_ hL sL
  rw [← eL]
  exact upd_same
end
theorem r_law_closed_values {K : PySem.W.Frag} : ∀ vs H Q E, sp_law_closed_values K vs H Q E → t_law_closed_values K (EndsK Q) (L2.start n_law_closed_values vs) H := by
  rintro vs H Q E ⟨r, v, as, R, n, l, rfl, hn, hr, ok, hv, hl, hlt, q⟩
  have hop : ∀ x y, x < n → y < n → opOf R x y < n := fun x y hx hy => ok.lt hx hy
  refine q_parL (el_callL (ea_cons (ev_var rfl) ea_nil) fun H1 e Q2 q2 => ⟨v, l, rfl, e _ _ hv, by omega, fun H' p e2 np hp => q2 p H' np e2 hp⟩) ev_c fun f H1 nf e1 hf => ?_
  refine q_while (fun m σ' H' => ∃ (g : Addr) (F : List Nat) (i : Nat) (w4 w5 w6 : Option V), H g = none ∧ Ex H H' ∧ H' g = some (.lst (nI F)) ∧ Clo (opOf R) l F i ∧ m = n - i ∧ σ' = [some (.ref r), some (.ref v), some (.ref g), some (.int (i : Int)), w4, w5, w6, none]) n
    ⟨f, once l, 0, none, none, none, nf, e1, hf, Clo.once, rfl, rfl⟩ (fun m σ' H' hw => ?_)
  obtain ⟨g, F, i, w4, w5, w6, ng, e2, hg, clo, rfl, rfl⟩ := hw
  have hlen := clo.len hop hlt
  have hr2 := hr.ex e2
  refine ⟨decide (i < F.length), et_is (et_lt (i := (i : Int)) (j := (F.length : Int)) (ev_var rfl) (ev_is (ev_lenL (ev_var rfl) (sq_of hg)) (by rw [nI_len]))) (by rw [decide_eq_decide]; omega), fun hb H3 e3 => ?_, fun hb H3 e3 => ?_⟩
  · have hi : i < F.length := of_decide_eq_true hb
    refine ⟨fun σ2 H2 => ∃ (g : Addr) (F : List Nat) (w4 w5 w6 : Option V), H g = none ∧ Ex H H2 ∧ H2 g = some (.lst (nI F)) ∧ Clo (opOf R) l F (i + 1) ∧ σ2 = [some (.ref r), some (.ref v), some (.ref g), some (.int ((i + 1 : Nat) : Int)), w4, w5, w6, none], fun σ2 H2 ⟨g, F, w4, w5, w6, h1, h2, h3, h4, h5⟩ => ⟨n - (i + 1), by omega, g, F, i + 1, w4, w5, w6, h1, h2, h3, h4, rfl, h5⟩, ?_⟩
    have fx : F[i]? = some F[i] := List.getElem?_eq_getElem hi
    have e23 := e2.trans e3
    refine q_forNLn (xs := nI F) (el_list (ev_var rfl) (sq_of (e3 _ _ hg))) (fun p j σ' H' => H3 p = none ∧ ∃ (g : Addr) (G : List Nat) (w4 w5 w6 : Option V), H g = none ∧ Ex H3 H' ∧ H' p = some (.lst (nI F)) ∧ H' g = some (.lst (nI G)) ∧ CloT (opOf R) l F G i j ∧ σ' = [some (.ref r), some (.ref v), some (.ref g), some (.int (i : Int)), w4, w5, w6, none])
      (fun p H4 np e4 hp => ⟨np, g, F, w4, w5, w6, ng, e4, hp, e4 _ _ (e3 _ _ hg), CloT.start clo, rfl⟩) (fun p j σ' H' _ h => ?_) (fun p j x σ' H' hx h => ?_) (fun p σ' H' h => ?_)
    · obtain ⟨np, g, G, w4, w5, w6, ng, e4, hp, hgG, ct, rfl⟩ := h
      exact sq_of hp
    · obtain ⟨np, g, G, w4, w5, w6, ng, e4, hp, hgG, ct, rfl⟩ := h
      obtain ⟨y, hy, rfl⟩ := nI_of hx
      obtain ⟨Rs, hpre⟩ := ct.pre
      have hxn : F[i] < n := gen_lt hop hlt (clo.gen _ (List.getElem_mem hi))
      have hyn : y < n := gen_lt hop hlt (clo.gen _ (List.mem_of_getElem? hy))
      have hGi : G[i]? = some F[i] := by
        rw [hpre, List.getElem?_append_left hi]
        exact fx
      have hGl : G.length ≤ n := nodup_len ct.nd fun z hz => gen_lt hop hlt (ct.gen z hz)
      have hr4 := hr.ex (e23.trans e4)
      obtain ⟨a1, b1, _, c1⟩ := hr4.ref ok hxn
      obtain ⟨a2, b2, _, c2⟩ := hr4.ref ok hyn
      refine q_par (x := .ref a1) (y := .ref a2) (ev_row hr4 ok (ev_var rfl) (ev_ixL (ev_var rfl) (ev_var rfl) (sq_of hgG) (nI_at hGi)) b1) (ev_row hr4 ok (ev_var rfl) (ev_var rfl) b2) fun H5 e5 => ?_
      have two : EvL (tLst (tCons (tOp (rIxL K) (tVar 5) (tVar 4)) (tCons (tOp (rIxL K) (tVar 6) (tOp (rIxL K) (tVar 2) (tVar 3))) tNil))) [some (.ref r), some (.ref v), some (.ref g), some (.int (i : Int)), some (.int (y : Int)), some (.ref a1), some (.ref a2), none] H5 (nI [opOf R F[i] y, opOf R y F[i]]) := by
        refine el_lst (v2 (ev_ixL (ev_var rfl) (ev_var rfl) (sq_of (e5 _ _ c1)) (nI_at (ok.at_ hxn hyn))) (ev_ixL (ev_var rfl) ?_ (sq_of (e5 _ _ c2)) (nI_at (ok.at_ hyn hxn)))) (by show 2 ≤ 100000; decide)
        exact ev_ixL (ev_var rfl) (ev_var rfl) (sq_of (e5 _ _ hgG)) (nI_at hGi)
      have cat := el_cat (ta := tVar 2) (e5 _ _ hgG) (ev_var rfl) two (by rw [nI_len]; show _ + 2 ≤ _; omega)
      rw [← nI_app] at cat
      refine s_asgL (xs := nI (addN (addN G (opOf R F[i] y)) (opOf R y F[i]))) (el_callN cat fun p2 H6 e6 hp2 Q2 q2 => ⟨p2, _, rfl, hp2, by rw [List.length_append]; show _ + 2 ≤ _; omega, fun H7 p3 e7 np3 hp3 => q2 p3 H7 np3 e7 (by rw [← once_two ct.nd]; exact hp3)⟩) fun p4 H6 np4 e6 hp4 => ?_
      exact ⟨np, p4, _, _, _, _, fresh_back ((e23.trans e4).trans e5) np4, (e4.trans e5).trans e6, e6 _ _ (e5 _ _ hp), hp4, ct.next fx hy, rfl⟩
    · obtain ⟨np, g, G, w4, w5, w6, ng, e4, hp, hgG, ct, rfl⟩ := h
      rw [nI_len] at ct
      refine s_asg (ev_add (ev_var rfl) ev_c) fun H5 e5 => ⟨g, G, w4, w5, w6, ng, (e23.trans e4).trans e5, e5 _ _ hgG, CloT.end clo ct (by omega) hi, ?_⟩
      rfl
  · have hi : ¬ i < F.length := of_decide_eq_false hb
    have hF : F.length ≤ i := by omega
    exact ev_sorted (e3 _ _ hg) (by omega) (ev_var rfl) (fun _ => rfl) (fun _ => rfl) H3 (Ex.refl H3) _ fun p H4 L np e4 hp hL sL => q H4 p L ((e2.trans e3).trans e4) (fresh_back (e2.trans e3) np) hp (clo.isGen hF hL sL)
end K28
end
section
namespace K28
open PySem PySem.Spec L2 PyProof.Rows Evl
section
variable {K : PySem.W.Frag} {σ : L2.St} {H : Hp} {te tf : TE} {D : Ends} {tz tu : TS} {g : TG}
theorem s_forNT {xs : List V} {tl : TE} (h : EvU tl σ H xs) (Pv : Addr → Nat → L2.St → Hp → Prop) (h0 : ∀ p H1, H p = none → Ex H H1 → H1 p = some (.tup xs) → Pv p 0 σ H1) (hl : ∀ p i σ' H', i ≤ xs.length → Pv p i σ' H' → SqT K H' p xs)
    (hs : ∀ p i x σ' H', xs[i]? = some x → Pv p i σ' H' → g x σ' H' fun σ2 H2 => tu { D with nx := Pv p (i + 1), ct := Pv p (i + 1), bk := D.nx } σ2 H2) (hd : ∀ p σ' H', Pv p xs.length σ' H' → D.nx σ' H') : tFor (iTup K tl) g tu D σ H :=
  h H (Ex.refl H) _ fun p H1 hp e h1 => ⟨p, rfl, ⟨xs, st_of h1⟩, for_tup (Pv p) (h0 p H1 hp e h1) (hl p) (hs p) (hd p)⟩
end
theorem addN_new {F : List Nat} {u : Nat} (h : u ∉ F) : addN F u = F ++ [u] := if_neg h
theorem addN_old {F : List Nat} {u : Nat} (h : u ∈ F) : addN F u = F := if_pos h
theorem ints_nat {n : Nat} {xs : List Int} (h : ∀ x ∈ xs, 0 ≤ x ∧ x < (n : Int)) : ∃ l : List Nat, nI l = iI xs ∧ (∀ x ∈ l, x < n) ∧ l.length = xs.length := by
  refine ⟨xs.map Int.toNat, ?_, fun x hx => ?_, List.length_map ..⟩
  · rw [nI_map, toNat_back fun x hx => (h x hx).1]
  · obtain ⟨y, hy, rfl⟩ := List.mem_map.mp hx
    have := h y hy
    omega
theorem bad_or {n : Nat} : ∀ xs : List Int, (∀ x ∈ xs, 0 ≤ x ∧ x < (n : Int)) ∨ ∃ d, FirstBad n xs d
  | [] => .inl fun x hx => by cases hx
  | x :: xs => by
    by_cases h : 0 ≤ x ∧ x < (n : Int)
    · rcases bad_or xs with g | ⟨d, i, h1, h2, h3⟩
      · refine .inl fun y hy => ?_
        rcases List.mem_cons.mp hy with rfl | hy
        · exact h
        · exact g y hy
      · refine .inr ⟨d, i + 1, h1, h2, fun j y hj hy => ?_⟩
        cases j with
        | zero =>
          cases hy
          exact h
        | succ j => exact h3 j y (by omega) hy
    · exact .inr ⟨x, 0, rfl, h, fun j _ hj => absurd hj (Nat.not_lt_zero j)⟩
section
variable {K : PySem.W.Frag} {σ : L2.St} {H : Hp} {te to : TE} {t r v : Addr} {n : Nat} {as : List Addr} {R : List (List Nat)} {E : XK} {D : Ends} {tz : TS}
/-- self.check(values), then the rest -/
theorem q_check {xs : List Int} (h : TblAt K H t n r as R) (hv : SqLT K H v (iI xs)) (ho : Ev to σ H (.ref t)) (he : Ev te σ H (.ref v)) (bad : ∀ d, FirstBad n xs d → Bad K "BadValue" [("value", .int d)] H E)
    (k : (∀ x ∈ xs, 0 ≤ x ∧ x < (n : Int)) → ∀ H1, Ex H H1 → tz D σ H1) : tSeq (tDrop (tMeth (cTab K) "check" (sp_Tcheck K) [] E to (tCons te tNil))) tz D σ H :=
  ho H (Ex.refl H) _ fun H1 e1 => by
    obtain ⟨dx, hi⟩ := h.ins
    refine ⟨t, dx, _, rfl, e1 _ _ hi, rfl, he H1 e1 _ fun H2 e2 => ?_⟩
    have e12 := e1.trans e2
    refine ⟨t, v, dx, r, n, xs, rfl, e12 _ _ hi, ?_, fun g H3 e3 => k g H3 (e12.trans e3), fun d b => (bad d b).back e12⟩
    rcases hv with hv | hv
    · exact .inl (ex_l e12 hv)
    · exact .inr (ex_t e12 hv)
/-- value in values -/
theorem et_in {l : List Nat} {x : Nat} {tx tv : TE} (hv : SqLT K H v (nI l)) (hx : Ev tx σ H (.int (x : Int))) (h : Ev tv σ H (.ref v)) : EvT (tTest (tOp (rIn K false) tx tv)) σ H (decide (x ∈ l)) := by
  have g : Ev (tOp (rIn K false) tx tv) σ H (.bl (inV (.int (x : Int)) (nI l))) := by
    rcases hv with hv | hv
    · exact ev_op hx h (rv_isL hv rfl (nI_flat l))
    · exact ev_op hx h (rv_isT hv rfl (nI_flat l))
  rw [nI_in] at g
  exact et_test g
theorem et_notin {l : List Nat} {x : Nat} {tx tv : TE} (hv : SqL K H v (nI l)) (hx : Ev tx σ H (.int (x : Int))) (h : Ev tv σ H (.ref v)) : EvT (tTest (tOp (rIn K true) tx tv)) σ H (!decide (x ∈ l)) := by
  have g := ev_op hx h (rv_niL (K := K) hv rfl (nI_flat l))
  rw [nI_in] at g
  exact et_test g
end
theorem SqLT.ex {K : PySem.W.Frag} {H H' : Hp} {a : Addr} {xs : List V} (h : SqLT K H a xs) (e : Ex H H') : SqLT K H' a xs := by
  rcases h with h | h
  · exact .inl (ex_l e h)
  · exact .inr (ex_t e h)
theorem r_Tgenerated {P : Program} {K : PySem.W.Frag} {mg : Str → Option Value} (T : Txt P K mg) : ∀ vs H Q E, sp_Tgenerated K vs H Q E → t_Tgenerated K E (EndsK Q) (L2.start n_Tgenerated vs) H := by
  rintro vs H Q E ⟨t, v, r, as, R, n, xs, rfl, h, hv, good, bad⟩
  have hn := h.sm
  refine q_check h hv (ev_var rfl) (ev_var rfl) bad fun all H1 e1 => ?_
  obtain ⟨l, hl, hlt, _⟩ := ints_nat all
  have q := good l hl hlt
  rw [← hl] at hv
  have h1 := h.ex e1
  have hop : ∀ x y, x < n → y < n → opOf R x y < n := fun x y hx hy => h.ok.lt hx hy
  refine q_asgL (xs := nI (keptOf n l)) (el_pickR (n := n) (fun x => decide (x ∈ l)) (ea_cons (ev_size T h1 (ev_var rfl)) ea_nil) (by omega) (fun _ => rfl) (fun i H2 e2 hi => et_in (hv.ex (e1.trans e2)) (ev_var rfl) (ev_var rfl)) (fun i H2 => ev_var rfl)) fun f H2 nf e2 hf => ?_
  refine q_asg ev_c fun H3 e3 => ?_
  have e13 := (e1.trans e2).trans e3
  refine q_while (fun m σ' H' => ∃ (g : Addr) (F : List Nat) (i : Nat) (w2 w5 : Option V), H g = none ∧ Ex H H' ∧ H' g = some (.lst (nI F)) ∧ Clo (opOf R) l F i ∧ m = n - i ∧ σ' = [some (.ref t), some (.ref v), w2, some (.ref g), some (.int (i : Int)), w5]) n
    ⟨f, keptOf n l, 0, _, _, fresh_back e1 nf, e13, e3 _ _ hf, Clo.kept hlt, rfl, rfl⟩ (fun m σ' H' hw => ?_)
  obtain ⟨g, F, i, w2, w5, ng, e4, hg, clo, rfl, rfl⟩ := hw
  have hlen := clo.len hop hlt
  refine ⟨decide (i < F.length), et_is (et_lt (i := (i : Int)) (j := (F.length : Int)) (ev_var rfl) (ev_is (ev_lenL (ev_var rfl) (sq_of hg)) (by rw [nI_len]))) (by rw [decide_eq_decide]; omega), fun hb H5 e5 => ?_, fun hb H5 e5 => ?_⟩
  · have hi : i < F.length := of_decide_eq_true hb
    refine ⟨fun σ2 H2 => ∃ (g : Addr) (F : List Nat) (w2 w5 : Option V), H g = none ∧ Ex H H2 ∧ H2 g = some (.lst (nI F)) ∧ Clo (opOf R) l F (i + 1) ∧ σ2 = [some (.ref t), some (.ref v), w2, some (.ref g), some (.int ((i + 1 : Nat) : Int)), w5], fun σ2 H2 ⟨g, F, w2, w5, h1, h2, h3, h4, h5⟩ => ⟨n - (i + 1), by omega, g, F, i + 1, w2, w5, h1, h2, h3, h4, rfl, h5⟩, ?_⟩
    have fx : F[i]? = some F[i] := List.getElem?_eq_getElem hi
    have e45 := e4.trans e5
    have cut : EvL (tSl (rSlL K) (tVar 3) tNoPart (tPart (tOp rAddK (tVar 4) (tC (.int 1))))) [some (.ref t), some (.ref v), w2, some (.ref g), some (.int (i : Int)), w5] H5 (nI (F.take (i + 1))) := by
      have c := el_sl (K := K) (lo := none) (hi := some ((i + 1 : Nat) : Int)) (ev_var (i := 3) (σ := [some (.ref t), some (.ref v), w2, some (.ref g), some (.int (i : Int)), w5]) rfl) eo_none (eo_some (ev_is (ev_add (i := (i : Int)) (j := 1) (ev_var (i := 4) rfl) ev_c) (congrArg V.int (by omega)))) (sq_of (e5 _ _ hg))
      rw [cut_to] at c
      have e : nI (F.take (i + 1)) = (nI F).take (i + 1) := by
        unfold nI
        rw [List.map_take]
      rw [e]
      exact c
    have copy : EvL (tCB (rListS K) (tCons (tSl (rSlL K) (tVar 3) tNoPart (tPart (tOp rAddK (tVar 4) (tC (.int 1))))) tNil)) [some (.ref t), some (.ref v), w2, some (.ref g), some (.int (i : Int)), w5] H5 (nI (F.take (i + 1))) := fun J1 f1 Q1 q1 => by
      show tSl (rSlL K) (tVar 3) tNoPart (tPart (tOp rAddK (tVar 4) (tC (.int 1)))) _ J1 fun x J2 => rListS K [x] J2 Q1
      exact cut J1 f1 _ fun p J2 np f2 hp => ⟨p, _, rfl, .inl (sq_of hp), fun q' nq => q1 q' _ (fresh_back f2 nq) (f2.trans (Ex.new nq)) upd_same⟩
    refine q_forNLn copy (fun p j σ' H' => H5 p = none ∧ H p = none ∧ ∃ (G : List Nat) (w2 w5 : Option V), Ex H H' ∧ H' p = some (.lst (nI (F.take (i + 1)))) ∧ p ≠ g ∧ H' g = some (.lst (nI G)) ∧ CloT (opOf R) l F G i j ∧ σ' = [some (.ref t), some (.ref v), w2, some (.ref g), some (.int (i : Int)), w5])
      (fun p H6 np e6 hp => ⟨np, fresh_back e45 np, F, w2, w5, e45.trans e6, hp, (fun z => by rw [z, e5 _ _ hg] at np; cases np), e6 _ _ (e5 _ _ hg), CloT.start clo, rfl⟩) (fun p j σ' H' _ hh => ?_) (fun p j x σ' H' hx hh => ?_) (fun p σ' H' hh => ?_)
    · obtain ⟨np, np0, G, w2, w5, e6, hp, pg, hgG, ct, rfl⟩ := hh
      exact sq_of hp
    · obtain ⟨np, np0, G, w2, w5, e6, hp, pg, hgG, ct, rfl⟩ := hh
      obtain ⟨y, hy, rfl⟩ := nI_of hx
      have hjl := (List.getElem?_eq_some_iff.mp hy).1
      rw [List.length_take] at hjl
      have fy : F[j]? = some y := by
        rw [List.getElem?_take_of_lt (by omega)] at hy
        exact hy
      obtain ⟨Rs, hpre⟩ := ct.pre
      have hxn : F[i] < n := gen_lt hop hlt (clo.gen _ (List.getElem_mem hi))
      have hyn : y < n := gen_lt hop hlt (clo.gen _ (List.mem_of_getElem? fy))
      have hGi : G[i]? = some F[i] := by
        rw [hpre, List.getElem?_append_left hi]
        exact fx
      have h6 := h.ex e6
      have fa : Ev (tOp (rIxL K) (tVar 3) (tVar 4)) [some (.ref t), some (.ref v), some (.int (y : Int)), some (.ref g), some (.int (i : Int)), w5] H' (.int (F[i] : Nat)) := ev_ixL (ev_var rfl) (ev_var rfl) (sq_of hgG) (nI_at hGi)
      have two : EvU (tTup (tCons (tOp (rIxL K) (tOp (rIxL K) (tFld K (tVar 0) "rows") (tOp (rIxL K) (tVar 3) (tVar 4))) (tVar 2)) (tCons (tOp (rIxL K) (tOp (rIxL K) (tFld K (tVar 0) "rows") (tVar 2)) (tOp (rIxL K) (tVar 3) (tVar 4))) tNil)))
          [some (.ref t), some (.ref v), some (.int (y : Int)), some (.ref g), some (.int (i : Int)), w5] H' (nI [opOf R F[i] y, opOf R y F[i]]) :=
        eu_tup (v2 (ev_cell h6.rows h.ok hxn hyn (ev_rows T h6 (ev_var rfl)) fa (ev_var rfl)) (ev_cell h6.rows h.ok hyn hxn (ev_rows T h6 (ev_var rfl)) (ev_var rfl) fa)) (by show 2 ≤ 100000; decide)
      refine s_forNT two (fun q' k σ' H2 => H' q' = none ∧ ∃ (w5 : Option V), Ex H H2 ∧ H2 p = some (.lst (nI (F.take (i + 1)))) ∧ H2 q' = some (.tup (nI [opOf R F[i] y, opOf R y F[i]])) ∧ H2 g = some (.lst (nI (([opOf R F[i] y, opOf R y F[i]].take k).foldl addN G))) ∧ σ' = [some (.ref t), some (.ref v), some (.int (y : Int)), some (.ref g), some (.int (i : Int)), w5])
        (fun q' H2 nq f2 hq => ⟨nq, w5, e6.trans f2, f2 _ _ hp, hq, f2 _ _ hgG, rfl⟩) (fun q' k σ' H2 _ pk => ?_) (fun q' k z σ' H2 hz pk => ?_) (fun q' σ' H2 pk => ?_)
      · obtain ⟨nq, w5, f2, hp2, hq2, hg2, rfl⟩ := pk
        exact st_of hq2
      · obtain ⟨nq, w5, f2, hp2, hq2, hg2, rfl⟩ := pk
        obtain ⟨u, hu, rfl⟩ := nI_of hz
        have step : ([opOf R F[i] y, opOf R y F[i]].take (k + 1)).foldl addN G = addN (([opOf R F[i] y, opOf R y F[i]].take k).foldl addN G) u := by
          rw [take_succ_at hu, List.foldl_append]
          rfl
        refine s_when (et_notin (sq_of hg2) (ev_var rfl) (ev_var rfl)) (fun hb H3 f3 => ?_) (fun hb H3 f3 => ?_)
        · have nin := of_decide_eq_false (notT hb)
          refine s_app (f3 _ _ hg2) (ev_var rfl) (ev_var rfl) ?_ fun H4 f4 => ⟨nq, some (.int (u : Int)), Ex.mut ((f2.trans f3).trans f4) ng, ?_, ?_, ?_, rfl⟩
          · rw [nI_len]
            have h1 : (([opOf R F[i] y, opOf R y F[i]].take k).foldl addN G).length ≤ G.length + ([opOf R F[i] y, opOf R y F[i]].take k).length := fold_len _ _
            have h2 : ([opOf R F[i] y, opOf R y F[i]].take k).length ≤ 2 := List.length_take_le' _ _
            have h3 : G.length ≤ n := nodup_len ct.nd fun z hz => gen_lt hop hlt (ct.gen z hz)
            omega
          · rw [upd_ne pg]
            exact f4 _ _ (f3 _ _ hp2)
          · rw [upd_ne (fun z => by rw [z, hgG] at nq; cases nq)]
            exact f4 _ _ (f3 _ _ hq2)
          · rw [upd_same, step, addN_new nin, nI_app]
            rfl
        · have inn := of_decide_eq_true (notF hb)
          refine ⟨nq, some (.int (u : Int)), f2.trans f3, f3 _ _ hp2, f3 _ _ hq2, ?_, rfl⟩
          rw [step, addN_old inn]
          exact f3 _ _ hg2
      · obtain ⟨nq, w5, f2, hp2, hq2, hg2, rfl⟩ := pk
        exact ⟨np, np0, _, _, _, f2, hp2, pg, hg2, ct.next fx fy, rfl⟩
    · obtain ⟨np, np0, G, w2, w5, e6, hp, pg, hgG, ct, rfl⟩ := hh
      rw [nI_len, List.length_take, Nat.min_eq_left (by omega)] at ct
      refine s_aug (a := (i : Int)) (b := 1) rfl ev_c fun H7 e7 => ⟨g, G, w2, w5, ng, e6.trans e7, e7 _ _ hgG, CloT.end clo ct (by omega) hi, rfl⟩
  · have hi : ¬ i < F.length := of_decide_eq_false hb
    have hF : F.length ≤ i := by omega
    exact ev_sorted (e5 _ _ hg) (by omega) (ev_var rfl) (fun _ => rfl) (fun _ => rfl) H5 (Ex.refl H5) _ fun p H6 L np e6 hp hL sL => q H6 p L ((e4.trans e5).trans e6) (fresh_back (e4.trans e5) np) hp (clo.isGen hF hL sL)
end K28
end
section
namespace K28
open PySem PySem.Spec L2 PyProof.Rows Evl
/-! ### data -/
def dI (l : List Nat) : PyData := .list (l.map fun (n : Nat) => PyData.int (n : Int))
theorem dpAll_nI {K : PySem.W.Frag} {H : Hp} : ∀ l : List Nat, DpAll K H (nI l) (l.map fun (n : Nat) => PyData.int (n : Int))
  | [] => .nil
  | x :: l => .cons (.int _) (dpAll_nI l)
theorem dp_nI {K : PySem.W.Frag} {H : Hp} {a : Addr} {l : List Nat} (h : SqL K H a (nI l)) : Dp K H (.ref a) (dI l) := .lst h (dpAll_nI l)
theorem lay_nI : ∀ l : List Nat, PyData.canLayAll0 (l.map fun (n : Nat) => PyData.int (n : Int)) = true
  | [] => rfl
  | x :: l => by
    show (PyData.canLay0 (.int (x : Int)) && PyData.canLayAll0 (l.map fun (n : Nat) => PyData.int (n : Int))) = true
    rw [lay_nI l]
    rfl
theorem dep_nI : ∀ l : List Nat, PyData.depthAll (l.map fun (n : Nat) => PyData.int (n : Int)) = 0
  | [] => rfl
  | x :: l => by
    show max (PyData.depth (.int (x : Int))) (PyData.depthAll (l.map fun (n : Nat) => PyData.int (n : Int))) = 0
    rw [dep_nI l]
    rfl
theorem lay_dI (l : List Nat) : (dI l).canLay0 = true := lay_nI l
theorem dep_dI (l : List Nat) : (dI l).depth = 1 := by
  show PyData.depthAll (l.map fun (n : Nat) => PyData.int (n : Int)) + 1 = 1
  rw [dep_nI l]
theorem shaped_dI (l : List Nat) : SeqAt.shaped (dI l) = true := by
  unfold SeqAt.shaped
  rw [lay_dI, dep_dI]
  rfl
theorem eqv_nil (l : List Nat) : PyData.eqv (dI l) (dI []) = decide (l = []) := by
  cases l with
  | nil => rfl
  | cons x l => rfl
section
variable {K : PySem.W.Frag} {σ : L2.St} {H : Hp} {te : TE}
theorem et_eqNil {a : Addr} {l : List Nat} (ha : H a = some (.lst (nI l))) (h : Ev te σ H (.ref a)) : EvT (tTest (tOp (rEqD K) te (tLst tNil))) σ H (decide (l = [])) := fun H1 e Q q =>
  h H1 e _ fun H2 e2 => ⟨Nat.zero_le _, fun p np => ⟨dI l, dI [], dp_nI (sq_of (Ex.new np _ _ (e2 _ _ (e _ _ ha)))), dp_nI (sq_of upd_same), shaped_dI l, shaped_dI [], _, rfl, by
    rw [eqv_nil]
    exact q _ (e2.trans (Ex.new np))⟩⟩
theorem et_neNil {a : Addr} {l : List Nat} (ha : H a = some (.lst (nI l))) (h : Ev te σ H (.ref a)) : EvT (tTest (tOp (rNeD K) te (tLst tNil))) σ H (!decide (l = [])) := fun H1 e Q q =>
  h H1 e _ fun H2 e2 => ⟨Nat.zero_le _, fun p np => ⟨dI l, dI [], dp_nI (sq_of (Ex.new np _ _ (e2 _ _ (e _ _ ha)))), dp_nI (sq_of upd_same), shaped_dI l, shaped_dI [], _, rfl, by
    rw [eqv_nil]
    exact q _ (e2.trans (Ex.new np))⟩⟩
end
theorem yes_go {σ : L2.St} {H : Hp} {A B : Hp → Prop} (h : A H) : tYes σ H fun b H3 => if b = true then A H3 else B H3 := by
  show (if true = true then A H else B H)
  rw [if_pos rfl]
  exact h
/-! ### the numbers of the kept -/
def kvFrom (s : Nat) : List Nat → List (Key × V)
  | [] => []
  | x :: r => (.inl (x : Int), .int (s : Int)) :: kvFrom (s + 1) r
theorem kvFrom_snoc : ∀ (l : List Nat) (s x : Nat), kvFrom s (l ++ [x]) = kvFrom s l ++ [(.inl (x : Int), .int ((s + l.length : Nat) : Int))]
  | [], s, x => rfl
  | y :: l, s, x => by
    show (_ : Key × V) :: kvFrom (s + 1) (l ++ [x]) = _ :: (kvFrom (s + 1) l ++ _)
    rw [kvFrom_snoc l (s + 1) x]
    have e : s + 1 + l.length = s + (y :: l).length := by rw [List.length_cons]; omega
    rw [e]
theorem kvFrom_keys : ∀ (l : List Nat) (s : Nat) (k : Key), k ∈ (kvFrom s l).map (·.1) → ∃ x ∈ l, k = .inl (x : Int)
  | [], _, _, h => by cases h
  | y :: l, s, k, h => by
    rcases List.mem_cons.mp (show k ∈ (Sum.inl (y : Int) : Key) :: (kvFrom (s + 1) l).map (·.1) from h) with h | h
    · exact ⟨y, List.mem_cons_self, h⟩
    · obtain ⟨x, hx, e⟩ := kvFrom_keys l (s + 1) k h
      exact ⟨x, List.mem_cons_of_mem _ hx, e⟩
theorem kvFrom_len : ∀ (l : List Nat) (s : Nat), (kvFrom s l).length = l.length
  | [], _ => rfl
  | y :: l, s => congrArg Nat.succ (kvFrom_len l (s + 1))
theorem kvFrom_get : ∀ (l : List Nat) (s x : Nat), x ∈ l → valV (kvFrom s l) (.inl (x : Int)) = some (.int ((s + l.idxOf x : Nat) : Int))
  | [], _, _, h => by cases h
  | y :: l, s, x, h => by
    by_cases e : y = x
    · subst e
      rw [List.idxOf_cons_self]
      exact valV_pos rfl
    · have ne : ¬ ((Sum.inl (y : Int) : Key)) = .inl (x : Int) := fun z => e (by
        have := Sum.inl.inj z
        omega)
      have hx : x ∈ l := by
        rcases List.mem_cons.mp h with h | h
        · exact absurd h.symm e
        · exact h
      show valV ((Sum.inl (y : Int), V.int (s : Int)) :: kvFrom (s + 1) l) (.inl (x : Int)) = _
      rw [valV_neg (p := (Sum.inl (y : Int), V.int (s : Int))) ne, kvFrom_get l (s + 1) x hx, List.idxOf_cons, beq_eq_false_iff_ne.mpr e]
      congr 3
      show s + 1 + l.idxOf x = s + (l.idxOf x + 1)
      omega
section
variable {K : PySem.W.Frag} {σ : L2.St} {H : Hp} {te : TE} {D : Ends} {tz : TS}
/-- {value: at for at, value in enumerate(kept)} -/
theorem ed_numbers {a : Addr} {ks : List Nat} {i j : Nat} (ha : H a = some (.lst (nI ks))) (nd : ks.Nodup) (hk : ks.length ≤ 100) (h : Ev te σ H (.ref a)) (hw : ∀ x y, wipe (((wipe σ [i, j]).set i (some x)).set j (some y)) [i, j] = wipe σ [i, j])
    (hi : ∀ x y : V, (((wipe σ [i, j]).set i (some x)).set j (some y))[i]? = some (some x)) (hj : ∀ x y : V, (((wipe σ [i, j]).set i (some x)).set j (some y))[j]? = some (some y)) :
    EvG (tDc (iEnum K (tCons te tNil)) (gTup K 2 (gCons (gName i) (gCons (gName j) gNil))) tYes (tVar j) (tVar i) [i, j]) σ H fun H p => H p = some (.dK (kvFrom 0 ks)) := fun H1 e Q q =>
  h H1 e _ fun H2 e2 => ⟨a, nI ks, rfl, sq_of (e2 _ _ (e _ _ ha)), fun D nD => by
    have hH2 := e2 _ _ (e _ _ ha)
    refine ⟨fun i m H' => m = ks.length - i ∧ i ≤ ks.length ∧ Ex H2 H' ∧ H' D = some (.dK (kvFrom 0 (ks.take i))), ⟨ks.length, rfl, Nat.zero_le _, Ex.new nD, upd_same⟩, ?_⟩
    rintro k m H' ⟨rfl, hk2, e3, hD⟩
    have h' := e3 _ _ hH2
    by_cases hlt : k < ks.length
    · have hx : ks[k]? = some ks[k] := List.getElem?_eq_getElem hlt
      refine .inr ⟨⟨nI ks, _, sq_of h', nI_at hx⟩, fun H' => Ex H2 H' ∧ H' D = some (.dK (kvFrom 0 (ks.take (k + 1)))), fun H' p => ⟨ks.length - (k + 1), by omega, rfl, hlt, p.1, p.2⟩, fun x H3 y => ?_⟩
      obtain ⟨Tp, v, rfl, nT, rfl, hv⟩ := y
      have hv2 := hv (nI ks) (sq_of h')
      rw [nI_at hx] at hv2
      cases hv2
      refine ⟨Tp, _, rfl, st_of upd_same, rfl, .int (k : Nat), [.int (ks[k] : Nat)], rfl, .int (ks[k] : Nat), [], rfl, rfl, hw _ _, ?_⟩
      refine yes_go ⟨.int (ks[k] : Nat), hj _ _, .int (k : Nat), hi _ _, kvFrom 0 (ks.take k), .inl (ks[k] : Int), rfl, ?_, ?_, ?_, ?_⟩
      · exact Ex.new nT _ _ hD
      · rw [kvFrom_len, List.length_take, sizeLine_eq]
        omega
      · exact Ex.mut (e3.trans (Ex.new nT)) nD
      · rw [upd_same, putK_new, take_succ_at hx, kvFrom_snoc]
        · rw [List.length_take, Nat.min_eq_left hk2, Nat.zero_add]
        · intro z
          obtain ⟨x, hxm, ex⟩ := kvFrom_keys _ _ _ z
          have ex2 : x = ks[k] := by
            have := Sum.inl.inj ex
            omega
          subst ex2
          obtain ⟨j2, hj2⟩ := List.getElem?_of_mem hxm
          have hj3 := (List.getElem?_eq_some_iff.mp hj2).1
          rw [List.length_take] at hj3
          rw [List.getElem?_take_of_lt (by omega)] at hj2
          obtain ⟨h4, h5⟩ := List.getElem?_eq_some_iff.mp hj2
          have := (List.getElem_inj nd).mp h5
          omega
    · have ek : k = ks.length := by omega
      subst ek
      rw [List.take_length] at hD
      exact .inl ⟨⟨nI ks, sq_of h', by rw [nI_len]; exact Nat.le_refl _⟩, q D H' (fresh_back e2 nD) (e2.trans e3) hD⟩⟩
end
/-! ### tables made -/
section
variable {K : PySem.W.Frag} {σ : L2.St} {H : Hp} {t1 t2 : TE} {n : Nat} {R : List (List Nat)}
theorem make_ex {H : Hp} {x dx C : Addr} (nx : H x = none) (nd : H dx = none) : Ex H (upd (upd H dx (.own x)) x (.ins C dx [])) := fun b o hb => by
  have b1 : b ≠ x := fun z => by rw [z, nx] at hb; cases hb
  have b2 : b ≠ dx := fun z => by rw [z, nd] at hb; cases hb
  rw [upd_ne b1, upd_ne b2]
  exact hb
theorem fr_ex {H H1 H2 : Hp} {x : Addr} (nx : H x = none) (e : Ex H H1) (f : Fr (fun a => a = x) H1 H2) : Ex H H2 := fun b o hb => f b o (e b o hb) fun z => by
  rw [z, nx] at hb
  cases hb
/-- Table(n, rows) -/
theorem eg_make2 (hn : 1 ≤ n) (hn7 : n ≤ 7) (ok : TabOk n R) (h1 : Ev t1 σ H (.int (n : Int))) (h2 : EvR t2 σ H (R.map nI)) :
    ∀ H1, Ex H H1 → ∀ Q : VK, (∀ t r as H2, H1 t = none → newAll H1 r as → Ex H1 H2 → TblAt K H2 t n r as R → Q (.ref t) H2) → tMake (cTab K) (sp_Tinit K) [] E0 (tCons t1 (tCons t2 tNil)) σ H1 Q := fun H1 e Q q =>
  h1 H1 e _ fun H2 e2 => er_rows h2 H2 (e.trans e2) _ fun r as H3 nw nd e3 hr => fun x dx nx ndx hne => by
    refine ⟨x, dx, n, .ref r, rfl, hn, hn7, upd_same, .inl ⟨r, rfl, fun H4 f4 h4 => ⟨rfl, ?_⟩⟩⟩
    have e4 := fr_ex nx (make_ex (C := cTab K) nx ndx) f4
    exact q x r as H4 (fresh_back (e2.trans e3) nx) (nw.back e2) ((e2.trans e3).trans e4) ⟨⟨dx, h4⟩, hr.ex e4, ok, nd, hn, hn7⟩
theorem zeros_ok (n : Nat) (hn : 1 ≤ n) : TabOk n (List.replicate n (List.replicate n 0)) := ⟨List.length_replicate .., fun r hr => by
  rw [(List.mem_replicate.mp hr).2]
  exact ⟨List.length_replicate .., fun x hx => by rw [(List.mem_replicate.mp hx).2]; omega⟩⟩
/-- Table(n) -/
theorem eg_make1 (hn : 1 ≤ n) (hn7 : n ≤ 7) (h1 : Ev t1 σ H (.int (n : Int))) :
    ∀ H1, Ex H H1 → ∀ Q : VK, (∀ t r as H2, H1 t = none → newAll H1 r as → Ex H1 H2 → TblAt K H2 t n r as (List.replicate n (List.replicate n 0)) → Q (.ref t) H2) → tMake (cTab K) (sp_Tinit K) [.non] E0 (tCons t1 tNil) σ H1 Q := fun H1 e Q q =>
  h1 H1 e _ fun H2 e2 => fun x dx nx ndx hne => by
    refine ⟨x, dx, n, .non, rfl, hn, hn7, upd_same, .inr ⟨rfl, fun H4 r as f4 h4 nw nd hr => ⟨rfl, ?_⟩⟩⟩
    have em := make_ex (C := cTab K) nx ndx
    have e4 := fr_ex nx em f4
    exact q x r as H4 (fresh_back e2 nx) ((nw.back em).back e2) (e2.trans e4) ⟨⟨dx, h4⟩, hr, zeros_ok n hn, nd, hn, hn7⟩
end
end K28
end
section
namespace K28
open PySem PySem.Spec L2 PyProof.Rows Evl
theorem part_row {op : Nat → Nat → Nat} {ks : List Nat} {i : Nat} {x : List V} (h : ((partRows op ks).map nI)[i]? = some x) : ∃ a, ks[i]? = some a ∧ x = nI (ks.map fun b => ks.idxOf (op a b)) := by
  unfold partRows at h
  rw [List.getElem?_map, List.getElem?_map] at h
  cases e : ks[i]? with
  | none =>
    rw [e] at h
    cases h
  | some a =>
    rw [e] at h
    cases h
    exact ⟨a, rfl, rfl⟩
theorem r_Tpart {P : Program} {K : PySem.W.Frag} {mg : Str → Option Value} (T : Txt P K mg) : ∀ vs H Q E, sp_Tpart K vs H Q E → t_Tpart K E (EndsK Q) (L2.start n_Tpart vs) H := by
  rintro vs H Q E ⟨t, v, r, as, R, n, xs, rfl, h, hv, good, bad⟩
  have hn := h.sm
  refine q_check h hv (ev_var rfl) (ev_var rfl) bad fun all H1 e1 => ?_
  obtain ⟨l, hl, hlt, _⟩ := ints_nat all
  obtain ⟨qE, qO, qC⟩ := good l hl hlt
  rw [← hl] at hv
  have h1 := h.ex e1
  refine q_asgL (xs := nI (keptOf n l)) (el_pickR (n := n) (fun x => decide (x ∈ l)) (ea_cons (ev_size T h1 (ev_var rfl)) ea_nil) (by omega) (fun _ => rfl) (fun i H2 e2 hi => et_in (hv.ex (e1.trans e2)) (ev_var rfl) (ev_var rfl)) (fun i H2 => ev_var rfl)) fun f H2 nf e2 hf => ?_
  generalize hks : keptOf n l = ks at *
  have ndk : ks.Nodup := by
    rw [← hks]
    exact up_nodup (kept_up n l)
  have kin : ∀ x ∈ ks, x < n := fun x hx => by
    rw [← hks] at hx
    exact (kept_mem.mp hx).1
  have klen : ks.length ≤ n := nodup_len ndk kin
  have e12 := e1.trans e2
  refine q_when (et_eqNil (l := ks) hf (ev_var (i := 2) rfl)) (fun hb H3 e3 => ?_) (fun hb H3 e3 => ?_)
  · exact raise_S ev_c ((qE (of_decide_eq_true hb)).back (e12.trans e3))
  have nonil : ks ≠ [] := of_decide_eq_false hb
  have e13 := e12.trans e3
  -- the loops
  refine q_forLn (a := f) (xs := nI ks) (ev_var rfl) (sq_of (e3 _ _ hf)) (fun i σ' H' => Ex H3 H' ∧ (∀ (i' x y : Nat), i' < i → ks[i']? = some x → y ∈ ks → opOf R x y ∈ ks) ∧ ∃ w3 w4, σ' = [some (.ref t), some (.ref v), some (.ref f), w3, w4, none, none, none, none, none]) (fun H4 e4 => ⟨e4, fun i' _ _ hi => absurd hi (Nat.not_lt_zero i'), none, none, rfl⟩) (fun i σ' H' _ p => sq_of (p.1 _ _ (e3 _ _ hf))) (fun i x σ' H' hx p => ?_) (fun σ' H' p => ?_)
  · obtain ⟨e4, outer, w3, w4, rfl⟩ := p
    obtain ⟨a, ha, rfl⟩ := nI_of hx
    have han := kin a (List.mem_of_getElem? ha)
    refine s_forLn (a := f) (xs := nI ks) (ev_var rfl) (sq_of (e4 _ _ (e3 _ _ hf))) (fun j σ' H2 => Ex H3 H2 ∧ (∀ (j' y : Nat), j' < j → ks[j']? = some y → opOf R a y ∈ ks) ∧ ∃ w4, σ' = [some (.ref t), some (.ref v), some (.ref f), some (.int (a : Int)), w4, none, none, none, none, none]) (fun H5 e5 => ⟨e4.trans e5, fun j' _ hj => absurd hj (Nat.not_lt_zero j'), w4, rfl⟩) (fun j σ' H2 _ p => sq_of (p.1 _ _ (e3 _ _ hf))) (fun j y σ' H2 hy p => ?_) (fun σ' H2 p => ?_)
    · obtain ⟨e5, inner, w4, rfl⟩ := p
      obtain ⟨b, hb, rfl⟩ := nI_of hy
      have hbn := kin b (List.mem_of_getElem? hb)
      have h5 := h.ex (e13.trans e5)
      refine s_when (et_notin (x := opOf R a b) (sq_of (e5 _ _ (e3 _ _ hf))) (ev_cell h5.rows h.ok han hbn (ev_rows T h5 (ev_var rfl)) (ev_var rfl) (ev_var rfl)) (ev_var rfl)) (fun hb2 H6 e6 => ?_) (fun hb2 H6 e6 => ?_)
      · have nin := of_decide_eq_false (notT hb2)
        exact raise_N (ev_var rfl) (ev_var rfl) (by omega) (by omega) ((qO a b ⟨i, j, ha, hb, nin, outer, inner⟩).back ((e13.trans e5).trans e6))
      · have inn := of_decide_eq_true (notF hb2)
        refine ⟨e5.trans e6, fun j' y hj hy2 => ?_, _, rfl⟩
        by_cases e : j' = j
        · subst e
          rw [hb] at hy2
          cases hy2
          exact inn
        · exact inner j' y (by omega) hy2
    · obtain ⟨e5, inner, w4, rfl⟩ := p
      refine ⟨e5, fun i' x y hi hx2 hy => ?_, _, _, rfl⟩
      by_cases e : i' = i
      · subst e
        rw [ha] at hx2
        cases hx2
        obtain ⟨j', hj'⟩ := List.getElem?_of_mem hy
        exact inner j' y (by rw [nI_len]; exact (List.getElem?_eq_some_iff.mp hj').1) hj'
      · exact outer i' x y (by omega) hx2 hy
  · obtain ⟨e4, outer, w3, w4, rfl⟩ := p
    have clo : Closed (opOf R) ks := fun x hx y hy => by
      obtain ⟨i', hi'⟩ := List.getElem?_of_mem hx
      exact outer i' x y (by rw [nI_len]; exact (List.getElem?_eq_some_iff.mp hi').1) hi' hy
    have e14 := e13.trans e4
    have hf4 := e4 _ _ (e3 _ _ hf)
    refine s_asgG (ed_numbers hf4 ndk (by omega) (ev_var rfl) (fun _ _ => rfl) (fun _ _ => rfl) (fun _ _ => rfl)) fun p H5 np e5 hp => ?_
    have kp : 1 ≤ ks.length := by
      cases ks with
      | nil => exact absurd rfl nonil
      | cons x ks => exact Nat.succ_le_succ (Nat.zero_le _)
    have hf5 := e5 _ _ hf4
    refine eg_make2 (n := ks.length) (R := partRows (opOf R) ks) kp (by omega) (part_ok clo) (ev_is (ev_lenL (ev_var rfl) (sq_of hf5)) (by rw [nI_len])) ?_ H5 (Ex.refl H5) _ fun t' r' as' H6 nt nw e6 ht' => qC nonil clo H6 t' r' as' ((e14.trans e5).trans e6) (fresh_back (e14.trans e5) nt) (nw.back (e14.trans e5)) ht'
    refine er_lcL (a := f) (xs := nI ks) (ev_var rfl) (sq_of hf5) (by rw [nI_len]; omega) (by rw [List.length_map, nI_len]; unfold partRows; rw [List.length_map]) (fun _ => rfl) fun i u x H6 e6 hu hx => ?_
    obtain ⟨a, ha, rfl⟩ := part_row hx
    rw [nI_at ha] at hu
    cases hu
    have han := kin a (List.mem_of_getElem? ha)
    refine el_map (a := f) (xs := nI ks) (ev_var rfl) (sq_of (e6 _ _ hf5)) (by rw [nI_len]; omega) (by rw [nI_len, nI_len, List.length_map]) (fun _ => rfl) fun j u y H7 e7 hu hy => ?_
    obtain ⟨b, hb, rfl⟩ := nI_of hu
    have hbn := kin b (List.mem_of_getElem? hb)
    rw [nI_at (x := ks.idxOf (opOf R a b)) (by rw [List.getElem?_map, hb]; rfl)] at hy
    cases hy
    have e57 := e6.trans e7
    have h7 := h.ex ((e14.trans e5).trans e57)
    have inn := clo a (List.mem_of_getElem? ha) b (List.mem_of_getElem? hb)
    intro J1 f1 Q1 q1
    refine ⟨.ref p, rfl, ?_⟩
    refine (ev_cell h7.rows h.ok han hbn (ev_rows T h7 (ev_var rfl)) (ev_var rfl) (ev_var rfl) : Ev _ _ H7 _) J1 f1 _ fun J2 f2 => ?_
    have hp2 := f2 _ _ (f1 _ _ (e57 _ _ hp))
    have g := DGet.k (k := .inl ((opOf R a b : Nat) : Int)) hp2
    rw [kvFrom_get ks 0 _ inn, Nat.zero_add] at g
    exact ⟨p, _, rfl, g, q1 J2 f2⟩
theorem r_law_open_pair {K : PySem.W.Frag} : ∀ vs H Q E, sp_law_open_pair K vs H Q E → t_law_open_pair K (EndsK Q) (L2.start n_law_open_pair vs) H := by
  rintro vs H Q E ⟨r, f, as, R, n, ks, rfl, hr, ok, hf, kin, qC, qO⟩
  refine q_forLn (a := f) (xs := nI ks) (ev_var rfl) (sq_of hf) (fun i σ' H' => Ex H H' ∧ (∀ (i' x y : Nat), i' < i → ks[i']? = some x → y ∈ ks → opOf R x y ∈ ks) ∧ ∃ w2 w3 w4, σ' = [some (.ref r), some (.ref f), w2, w3, w4]) (fun H4 e4 => ⟨e4, fun i' _ _ hi => absurd hi (Nat.not_lt_zero i'), none, none, none, rfl⟩) (fun i σ' H' _ p => sq_of (p.1 _ _ hf)) (fun i x σ' H' hx p => ?_) (fun σ' H' p => ?_)
  · obtain ⟨e4, outer, w2, w3, w4, rfl⟩ := p
    obtain ⟨a, ha, rfl⟩ := nI_of hx
    have han := kin a (List.mem_of_getElem? ha)
    refine s_forLn (a := f) (xs := nI ks) (ev_var rfl) (sq_of (e4 _ _ hf)) (fun j σ' H2 => Ex H H2 ∧ (∀ (j' y : Nat), j' < j → ks[j']? = some y → opOf R a y ∈ ks) ∧ ∃ w3 w4, σ' = [some (.ref r), some (.ref f), some (.int (a : Int)), w3, w4]) (fun H5 e5 => ⟨e4.trans e5, fun j' _ hj => absurd hj (Nat.not_lt_zero j'), w3, w4, rfl⟩) (fun j σ' H2 _ p => sq_of (p.1 _ _ hf)) (fun j y σ' H2 hy p => ?_) (fun σ' H2 p => ?_)
    · obtain ⟨e5, inner, w3, w4, rfl⟩ := p
      obtain ⟨b, hb, rfl⟩ := nI_of hy
      have hbn := kin b (List.mem_of_getElem? hb)
      obtain ⟨x, hx, _, hrow⟩ := (hr.ex e5).ref ok han
      refine q_asg (ev_row (hr.ex e5) ok (ev_var rfl) (ev_var rfl) hx) fun H6 e6 => ?_
      refine s_when (et_notin (x := opOf R a b) (sq_of (e6 _ _ (e5 _ _ hf))) (ev_ixL (ev_var rfl) (ev_var rfl) (sq_of (e6 _ _ hrow)) (nI_at (ok.at_ han hbn))) (ev_var rfl)) (fun hb2 H7 e7 => ?_) (fun hb2 H7 e7 => ?_)
      · have nin := of_decide_eq_false (notT hb2)
        refine s_retU (eu_tup (ea_cons ev_c (ea_cons (ev_var rfl) (ea_cons (ev_var rfl) (ea_cons ev_c ea_nil)))) (by show 4 ≤ 100000; decide)) fun p H8 np e8 hp => ?_
        exact qO a b ⟨i, j, ha, hb, nin, outer, inner⟩ H8 p (((e5.trans e6).trans e7).trans e8) (fresh_back ((e5.trans e6).trans e7) np) hp
      · have inn := of_decide_eq_true (notF hb2)
        refine ⟨(e5.trans e6).trans e7, fun j' y hj hy2 => ?_, _, _, rfl⟩
        by_cases e : j' = j
        · subst e
          rw [hb] at hy2
          cases hy2
          exact inn
        · exact inner j' y (by omega) hy2
    · obtain ⟨e5, inner, w3, w4, rfl⟩ := p
      refine ⟨e5, fun i' x y hi hx2 hy => ?_, _, _, _, rfl⟩
      by_cases e : i' = i
      · subst e
        rw [ha] at hx2
        cases hx2
        obtain ⟨j', hj'⟩ := List.getElem?_of_mem hy
        exact inner j' y (by rw [nI_len]; exact (List.getElem?_eq_some_iff.mp hj').1) hj'
      · exact outer i' x y (by omega) hx2 hy
  · obtain ⟨e4, outer, w2, w3, w4, rfl⟩ := p
    refine s_ret ev_c fun H5 e5 => qC (fun x hx y hy => ?_) H5 (e4.trans e5)
    obtain ⟨i', hi'⟩ := List.getElem?_of_mem hx
    exact outer i' x y (by rw [nI_len]; exact (List.getElem?_eq_some_iff.mp hi').1) hi' hy
theorem q_make1 {K : PySem.W.Frag} {σ : L2.St} {H : Hp} {t1 : TE} {n i : Nat} {D : Ends} {tz : TS} (hn : 1 ≤ n) (hn7 : n ≤ 7) (h1 : Ev t1 σ H (.int (n : Int)))
    (k : ∀ t r as H2, H t = none → newAll H r as → Ex H H2 → TblAt K H2 t n r as (List.replicate n (List.replicate n 0)) → tz D (σ.set i (some (.ref t))) H2) : tSeq (tAsg (tMake (cTab K) (sp_Tinit K) [.non] E0 (tCons t1 tNil)) (gName i)) tz D σ H :=
  eg_make1 (K := K) hn hn7 h1 H (Ex.refl H) (fun x H1 => gName i x σ H1 (tz D)) k
theorem r_law_table_of_rows {K : PySem.W.Frag} : ∀ vs H Q E, sp_law_table_of_rows K vs H Q E → t_law_table_of_rows K (EndsK Q) (L2.start n_law_table_of_rows vs) H := by
  rintro vs H Q E ⟨r, as, R, n, rfl, hn1, hn7, hr, ok, q⟩
  have len : ∀ (σ : L2.St) H1, Ex H H1 → σ[0]? = some (some (.ref r)) → Ev (tCB (rLenS K) (tCons (tVar 0) tNil)) σ H1 (.int (n : Int)) := fun σ H1 e hσ => ev_is (ev_lenL (ev_var hσ) (sq_of (hr.ex e).at_)) (by rw [List.length_map, hr.len, ok.len])
  refine q_make1 hn1 hn7 (len (L2.start n_law_table_of_rows [.ref r]) H (Ex.refl H) rfl) fun t r' as' H1 nt nw e1 ht => ?_
  have fr : ∀ {a : Addr} {ra : Addr}, as'[a]? = some ra → H ra = none := fun h => nw.2 _ (List.mem_of_getElem? h)
  refine q_forR1 (ea_cons (len _ H1 e1 rfl) ea_nil) ⟨by omega, by omega⟩ (fun a σ' H' => Ex H H' ∧ ∃ R', TblAt K H' t n r' as' R' ∧ (∀ i j, i < a → j < n → opOf R' i j = opOf R i j) ∧ ∃ w2 w3, σ' = [some (.ref r), some (.ref t), w2, w3]) (fun H2 e2 => ⟨e1.trans e2, _, ht.ex e2, fun i _ hi => absurd hi (Nat.not_lt_zero i), none, none, rfl⟩) (fun a σ' H' ha p => ?_) (fun σ' H' p => ?_)
  · obtain ⟨e2, R', hR', low, w2, w3, rfl⟩ := p
    have ha' : a < n := by omega
    refine s_forR1 (ea_cons (len _ H' e2 rfl) ea_nil) ⟨by omega, by omega⟩ (fun b σ' H' => Ex H H' ∧ ∃ R', TblAt K H' t n r' as' R' ∧ (∀ i j, i < a → j < n → opOf R' i j = opOf R i j) ∧ (∀ j, j < b → opOf R' a j = opOf R a j) ∧ ∃ w3, σ' = [some (.ref r), some (.ref t), some (.int (a : Int)), w3]) (fun H2 e3 => ⟨e2.trans e3, R', hR'.ex e3, low, fun j hj => absurd hj (Nat.not_lt_zero j), w3, rfl⟩) (fun b σ' H' hb p => ?_) (fun σ' H' p => ?_)
    · obtain ⟨e3, R', hR', low, row, w3, rfl⟩ := p
      have hb' : b < n := by omega
      have hc := ok.lt ha' hb'
      obtain ⟨ra, hra, _, _⟩ := hR'.rows.ref hR'.ok ha'
      refine (ev_cell (hr.ex e3) ok ha' hb' (ev_var rfl) (ev_var rfl) (ev_var rfl) : Ev _ _ H' _) H' (Ex.refl H') _ fun H4 e4 => ?_
      refine ⟨.ref t, rfl, ?_⟩
      refine eu_tup (v2 (x := a) (y := b) (ev_var rfl) (ev_var rfl)) (by show 2 ≤ 100000; decide) H4 (Ex.refl H4) _ fun p H5 np e5 hp => ?_
      have h5 := hR'.ex (e4.trans e5)
      obtain ⟨dx, hi⟩ := h5.ins
      refine ⟨t, dx, _, rfl, hi, t, p, r', ra, as', R', n, a, b, opOf R a b, rfl, h5, ha', hb', hc, hp, hra, fun H6 e6 => ?_⟩
      refine ⟨Ex.mut (((e3.trans e4).trans e5).trans e6) (fr hra), _, (h5.ex e6).set ha' hc hra, fun i j hi hj => ?_, fun j hj => ?_, _, rfl⟩
      · rw [op_set hR'.ok ha' hb' (by omega) hj, if_neg (fun z => by omega)]
        exact low i j hi hj
      · rw [op_set hR'.ok ha' hb' ha' (by omega)]
        by_cases e : j = b
        · rw [if_pos ⟨rfl, e⟩, e]
        · rw [if_neg (fun z => e z.2)]
          exact row j (by omega)
    · obtain ⟨e3, R', hR', low, row, w3, rfl⟩ := p
      refine ⟨e3, R', hR', fun i j hi hj => ?_, _, _, rfl⟩
      by_cases e : i = a
      · subst e
        exact row j (by simpa using hj)
      · exact low i j (by omega) hj
  · obtain ⟨e2, R', hR', low, w2, w3, rfl⟩ := p
    have e : R' = R := tab_ext hR'.ok ok fun i j hi hj => low i j (by simpa using hi) hj
    subst e
    exact s_ret (ev_var rfl) fun H3 e3 => q H3 t r' as' (e2.trans e3) nt nw (hR'.ex e3)
end K28
end
section
namespace K28
open PySem PySem.Spec L2 PyProof.Rows Evl
/-! ### the pen -/
def penK (c : Addr) (k l : Int) : List (Key × V) := [(.inr "cells", .ref c), (.inr "turn", .int k), (.inr "left", .int l)]
theorem pen_cells (c : Addr) (k l : Int) : valV (penK c k l) (.inr "cells") = some (.ref c) := rfl
theorem pen_turn (c : Addr) (k l : Int) : valV (penK c k l) (.inr "turn") = some (.int k) := rfl
theorem pen_left (c : Addr) (k l : Int) : valV (penK c k l) (.inr "left") = some (.int l) := rfl
theorem put_turn (c : Addr) (k l k' : Int) : putK (penK c k l) (.inr "turn") (.int k') = penK c k' l := rfl
theorem put_left (c : Addr) (k l l' : Int) : putK (penK c k l) (.inr "left") (.int l') = penK c k l' := rfl
structure PenV (H : Hp) (p c : Addr) (cells : List Int) (k l : Int) : Prop where
  pen : H p = some (.dK (penK c k l))
  cells : H c = some (.lst (iI cells))
theorem PenV.ex {H H' : Hp} {p c : Addr} {cells : List Int} {k l : Int} (h : PenV H p c cells k l) (e : Ex H H') : PenV H' p c cells k l := ⟨e _ _ h.pen, e _ _ h.cells⟩
theorem PenV.ne {H : Hp} {p c : Addr} {cells : List Int} {k l : Int} (h : PenV H p c cells k l) : c ≠ p := fun z => by
  have := h.cells
  rw [z, h.pen] at this
  cases this
theorem PenV.put {H : Hp} {p c : Addr} {cells : List Int} {k l k' l' : Int} (h : PenV H p c cells k l) : PenV (upd H p (.dK (penK c k' l'))) p c cells k' l' := ⟨upd_same, by rw [upd_ne h.ne]; exact h.cells⟩
theorem fr_put {H H1 : Hp} {p : Addr} {o : HO} (e : Fr (fun a => a = p) H H1) : Fr (fun a => a = p) H (upd H1 p o) := fun b u hb nb => by
  rw [upd_ne nb]
  exact e b u hb nb
section
variable {σ : L2.St} {H : Hp} {td te : TE} {D : Ends} {tz : TS} {p c : Addr} {cells : List Int} {k l : Int} {K : PySem.W.Frag}
theorem ev_turn (h : PenV H p c cells k l) (hd : Ev td σ H (.ref p)) : Ev (tDGet td (tC (.str "turn"))) σ H (.int k) := fun H1 e Q q =>
  hd H1 e _ fun H2 e2 => ⟨p, .int k, rfl, DGet.k (k := .inr "turn") (e2 _ _ (e _ _ h.pen)), q H2 e2⟩
theorem ev_left (h : PenV H p c cells k l) (hd : Ev td σ H (.ref p)) : Ev (tDGet td (tC (.str "left"))) σ H (.int l) := fun H1 e Q q =>
  hd H1 e _ fun H2 e2 => ⟨p, .int l, rfl, DGet.k (k := .inr "left") (e2 _ _ (e _ _ h.pen)), q H2 e2⟩
theorem ev_cells (h : PenV H p c cells k l) (hd : Ev td σ H (.ref p)) : Ev (tDGet td (tC (.str "cells"))) σ H (.ref c) := fun H1 e Q q =>
  hd H1 e _ fun H2 e2 => ⟨p, .ref c, rfl, DGet.k (k := .inr "cells") (e2 _ _ (e _ _ h.pen)), q H2 e2⟩
theorem q_turn {k' : Int} (h : PenV H p c cells k l) (hd : Ev td σ H (.ref p)) (he : Ev te σ H (.int k')) (go : ∀ H1, Ex H H1 → tz D σ (upd H1 p (.dK (penK c k' l)))) : tSeq (sDPut td (tC (.str "turn")) te) tz D σ H :=
  he H (Ex.refl H) _ fun H1 e1 => hd H1 e1 _ fun H2 e2 => ⟨p, _, rfl, DPut.k (k := .inr "turn") ((e1.trans e2) _ _ h.pen) (by show 3 < sizeLine; rw [sizeLine_eq]; decide), go H2 (e1.trans e2)⟩
theorem q_left {l' : Int} (h : PenV H p c cells k l) (hd : Ev td σ H (.ref p)) (he : Ev te σ H (.int l')) (go : ∀ H1, Ex H H1 → tz D σ (upd H1 p (.dK (penK c k l')))) : tSeq (sDPut td (tC (.str "left")) te) tz D σ H :=
  he H (Ex.refl H) _ fun H1 e1 => hd H1 e1 _ fun H2 e2 => ⟨p, _, rfl, DPut.k (k := .inr "left") ((e1.trans e2) _ _ h.pen) (by show 3 < sizeLine; rw [sizeLine_eq]; decide), go H2 (e1.trans e2)⟩
end
theorem mod_nat {s : Nat} (hs : 0 < s) (x : Int) : ∃ d : Nat, d < s ∧ x % (s : Int) = (d : Int) := by
  have h1 := Int.emod_nonneg x (show (s : Int) ≠ 0 by omega)
  have h2 := Int.emod_lt_of_pos x (show (0 : Int) < (s : Int) by omega)
  exact ⟨(x % (s : Int)).toNat, by omega, by omega⟩
theorem PenAt.v {H : Hp} {p c : Addr} {t : Nat} (h : PenAt H p c t) : ∃ (k l : Int) (cells : List Int), PenV H p c cells k l ∧ 0 ≤ k ∧ k ≤ t := by
  obtain ⟨k, l, cells, h1, h2, h3, h4⟩ := h
  exact ⟨k, l, cells, ⟨h1, h2⟩, h3, h4⟩
theorem PenV.at_ {H : Hp} {p c : Addr} {cells : List Int} {k l : Int} {t : Nat} (h : PenV H p c cells k l) (h0 : 0 ≤ k) (h1 : k ≤ t) : PenAt H p c t := ⟨k, l, cells, h.pen, h.cells, h0, h1⟩
def dZ (l : List Int) : PyData := .list (l.map PyData.int)
theorem dpAll_iI {K : PySem.W.Frag} {H : Hp} : ∀ l : List Int, DpAll K H (iI l) (l.map PyData.int)
  | [] => .nil
  | x :: l => .cons (.int _) (dpAll_iI l)
theorem dp_iI {K : PySem.W.Frag} {H : Hp} {a : Addr} {l : List Int} (h : SqL K H a (iI l)) : Dp K H (.ref a) (dZ l) := .lst h (dpAll_iI l)
theorem lay_iI : ∀ l : List Int, PyData.canLayAll0 (l.map PyData.int) = true
  | [] => rfl
  | x :: l => by
    show (PyData.canLay0 (.int x) && PyData.canLayAll0 (l.map PyData.int)) = true
    rw [lay_iI l]
    rfl
theorem dep_iI : ∀ l : List Int, PyData.depthAll (l.map PyData.int) = 0
  | [] => rfl
  | x :: l => by
    show max (PyData.depth (.int x)) (PyData.depthAll (l.map PyData.int)) = 0
    rw [dep_iI l]
    rfl
theorem lay_dZ (l : List Int) : (dZ l).canLay0 = true := lay_iI l
theorem shaped_dZ (l : List Int) : SeqAt.shaped (dZ l) = true := by
  unfold SeqAt.shaped
  rw [lay_dZ]
  show (true && decide (PyData.depthAll (l.map PyData.int) + 1 ≤ 64)) = true
  rw [dep_iI l]
  rfl
theorem et_neNilZ {K : PySem.W.Frag} {σ : L2.St} {H : Hp} {te : TE} {a : Addr} {l : List Int} (ha : H a = some (.lst (iI l))) (h : Ev te σ H (.ref a)) : EvT (tTest (tOp (rNeD K) te (tLst tNil))) σ H (!decide (l = [])) := fun H1 e Q q =>
  h H1 e _ fun H2 e2 => ⟨Nat.zero_le _, fun p np => ⟨dZ l, dZ [], dp_iI (sq_of (Ex.new np _ _ (e2 _ _ (e _ _ ha)))), dp_iI (sq_of upd_same), shaped_dZ l, shaped_dZ [], _, rfl, by
    have e3 : PyData.eqv (dZ l) (dZ []) = decide (l = []) := by
      cases l with
      | nil => rfl
      | cons x l => rfl
    rw [e3]
    exact q _ (e2.trans (Ex.new np))⟩⟩
theorem small_pos {m : Int} (h : 0 < m) (h2 : m < 2 ^ 40) (x : Int) : -(2 ^ 64) < x % m ∧ x % m < 2 ^ 64 := by
  have h1 := Int.emod_nonneg x (show m ≠ 0 by omega)
  have h3 := Int.emod_lt_of_pos x h
  omega
theorem div_ok {j : Int} (h : 0 < j) (h2 : j < 2 ^ 40) (i : Int) : CDivW i j := wide_div (b := 40) h (by omega) (by decide) (by decide)
section
variable {K : PySem.W.Frag} {σ : L2.St} {H : Hp} {ta tb : TE}
/-- int(..) % span, told as a number below span -/
theorem ev_digit {x : Int} {s : Nat} (hs : 0 < s) (ha : Ev ta σ H (.int x)) (hb : Ev tb σ H (.int (s : Int))) : ∃ d : Nat, d < s ∧ Ev (tOp rModK (tCB rInt1 (tCons ta tNil)) tb) σ H (.int (d : Int)) := by
  obtain ⟨d, hd, e⟩ := mod_nat hs x
  refine ⟨d, hd, ?_⟩
  rw [← e]
  exact ev_mod (ev_int1 ha) hb (by omega)
end
theorem r_law_draw {K : PySem.W.Frag} : ∀ vs H Q E, sp_law_draw K vs H Q E → t_law_draw K (EndsK Q) (L2.start n_law_draw vs) H := by
  rintro vs H Q E ⟨p, c, t, s, rfl, hs, hs2, ht, hpen, q⟩
  obtain ⟨k, l, cells, hv, hk0, hkt⟩ := hpen.v
  refine q_when (et_gt (ev_left hv (ev_var rfl)) ev_c) (fun hb H1 e1 => ?_) (fun hb H1 e1 => ?_)
  · obtain ⟨d, hd, ed⟩ := ev_digit (tb := tVar 1) (σ := L2.start n_law_draw [.ref p, .int (s : Int)]) (H := H1) hs (ev_left (td := tVar 0) (hv.ex e1) (ev_var rfl)) (ev_var rfl)
    refine q_asg ed fun H2 e2 => ?_
    have e12 := e1.trans e2
    refine q_left (hv.ex e12) (ev_var rfl) (ev_div (ev_left (hv.ex e12) (ev_var rfl)) (ev_var rfl) (div_ok (by omega) (by omega) _)) fun H3 e3 => ?_
    refine s_ret (ev_var rfl) fun H4 e4 => q H4 d hd ⟨(fr_put (fr_of (e12.trans e3))).ex e4, ?_⟩
    exact (((hv.ex (e12.trans e3)).put).at_ hk0 (by omega)).ex e4
  · refine q_asg (ev_turn (hv.ex e1) (ev_var rfl)) fun H2 e2 => ?_
    have e12 := e1.trans e2
    refine q_turn (hv.ex e12) (ev_var rfl) (ev_add (ev_var rfl) ev_c) fun H3 e3 => ?_
    have hv3 : PenV (upd H3 p (.dK (penK c (k + 1) l))) p c cells (k + 1) l := (hv.ex (e12.trans e3)).put
    have f3 : Fr (fun a => a = p) H (upd H3 p (.dK (penK c (k + 1) l))) := fr_put (fr_of (e12.trans e3))
    refine q_asg (ev_add (ev_mul ev_c (ev_var rfl) (.inl ⟨by decide, by decide⟩)) ev_c) fun H4 e4 => ?_
    have hv4 := hv3.ex e4
    have cell : ∃ x : Int, (cells = [] → x = 61 * k + 13) ∧ (cells ≠ [] → Ev (tOp (rIxL K) (tDGet (tVar 0) (tC (.str "cells"))) (tOp rModK (tCB rInt1 (tCons (tVar 3) tNil)) (tCB (rLenS K) (tCons (tDGet (tVar 0) (tC (.str "cells"))) tNil)))) [some (.ref p), some (.int (s : Int)), none, some (.int k), some (.int (61 * k + 13)), none] H4 (.int x)) := by
      by_cases hc : cells = []
      · exact ⟨61 * k + 13, fun _ => rfl, fun h => absurd hc h⟩
      · have hl : 0 < cells.length := by
          cases cells with
          | nil => exact absurd rfl hc
          | cons a r => exact Nat.succ_pos _
        obtain ⟨d, hd, ed⟩ := ev_digit (ta := tVar 3) (tb := tCB (rLenS K) (tCons (tDGet (tVar 0) (tC (.str "cells"))) tNil)) (σ := [some (.ref p), some (.int (s : Int)), none, some (.int k), some (.int (61 * k + 13)), none]) (H := H4) hl (ev_var (i := 3) rfl) (ev_is (ev_lenL (ev_cells hv4 (ev_var rfl)) (sq_of hv4.cells)) (by rw [iI_len]))
        exact ⟨cells[d], fun h => absurd h hc, fun _ => ev_ixL (ev_cells hv4 (ev_var rfl)) ed (sq_of hv4.cells) (iI_at (List.getElem?_eq_getElem hd))⟩
    obtain ⟨x, hx1, hx2⟩ := cell
    refine q_ifAsg (v := .int x) (et_neNilZ hv4.cells (ev_cells hv4 (ev_var rfl))) (fun hb => hx2 (of_decide_eq_false (notT hb))) (fun hb => ?_) fun H5 e5 => ?_
    · rw [hx1 (of_decide_eq_true (notF hb))]
      rfl
    have hv5 := hv4.ex e5
    have f5 := (f3.ex e4).ex e5
    have big : ∀ H6, Ev (tOp rPowK (tC (.int 10)) (tC (.int 18))) [some (.ref p), some (.int (s : Int)), none, some (.int k), some (.int x), none] H6 (.int (10 ^ 18)) := fun H6 => ev_pow ev_c ev_c ⟨by decide, by decide, by decide⟩
    have abs_ : ∀ H6, Ev (tCB rAbsK (tCons (tVar 4) tNil)) [some (.ref p), some (.int (s : Int)), none, some (.int k), some (.int x), none] H6 (.int (if x < 0 then -x else x)) := fun H6 => ev_abs (ev_var rfl)
    refine q_when (et_and (et_lt (ev_var rfl) (ev_lenL (ev_cells hv5 (ev_var rfl)) (sq_of hv5.cells))) fun _ => et_ge (abs_ H5) (big H5)) (fun hb H6 e6 => ?_) (fun hb H6 e6 => ?_)
    · refine q_left (hv5.ex e6) (ev_var rfl) (ev_div (ev_sub (abs_ H6) (big H6)) (ev_var rfl) (div_ok (by omega) (by omega) _)) fun H7 e7 => ?_
      obtain ⟨d, hd, ed⟩ := ev_digit (ta := tOp rSubK (tCB rAbsK (tCons (tVar 4) tNil)) (tOp rPowK (tC (.int 10)) (tC (.int 18)))) (tb := tVar 1) (σ := [some (.ref p), some (.int (s : Int)), none, some (.int k), some (.int x), none]) (H := upd H7 p (.dK (penK c (k + 1) (((if x < 0 then -x else x) - 10 ^ 18) / (s : Int))))) hs (ev_sub (abs_ _) (big _)) (ev_var rfl)
      refine s_ret ed fun H8 e8 => q H8 d hd ⟨(fr_put (f5.ex (e6.trans e7))).ex e8, ?_⟩
      exact (((hv5.ex (e6.trans e7)).put).at_ (by omega) (by omega)).ex e8
    · have kb : -(2 ^ 64) < k ∧ k < 2 ^ 64 := ⟨by omega, by omega⟩
      refine q_asg (ev_mul (ev_mod (ev_int1 (ev_var rfl)) ev_c (by decide)) ev_c (.inr ⟨by decide, by decide⟩)) fun H7 e7 => ?_
      refine q_asg (ev_mod (ev_int1 (ev_add (ev_add (ev_var rfl) (ev_mul (ev_var rfl) (ev_add (ev_mul (ev_var rfl) ev_c (.inl kb)) ev_c) (.inl kb))) ev_c)) ev_c (by decide)) fun H8 e8 => ?_
      refine q_asg (ev_mod (ev_int1 (ev_mul (ev_var rfl) (ev_add (ev_var rfl) ev_c) (.inl (small_pos (by decide) (by decide) _)))) ev_c (by decide)) fun H9 e9 => ?_
      refine q_asg (ev_mod (ev_int1 (ev_add (ev_add (ev_mul (ev_var rfl) (ev_var rfl) (.inl (small_pos (by decide) (by decide) _))) (ev_mul ev_c (ev_var rfl) (.inl ⟨by decide, by decide⟩))) (ev_mul ev_c (ev_var rfl) (.inl ⟨by decide, by decide⟩)))) ev_c (by decide)) fun H10 e10 => ?_
      have last : ∀ (y : Int), Ev (tOp rDivK (tOp rModK (tCB rInt1 (tCons (tOp rMulK (tVar 5) (tOp rAddK (tVar 5) (tC (.int 58111)))) tNil)) (tC (.int 4294966943))) (tC (.int 64))) [some (.ref p), some (.int (s : Int)), none, some (.int k), some (.int x), some (.int (y % 4294966981))] H10 (.int (((y % 4294966981) * (y % 4294966981 + 58111)) % 4294966943 / 64)) := fun y =>
        ev_div (ev_mod (ev_int1 (ev_mul (ev_var rfl) (ev_add (ev_var rfl) ev_c) (.inl (small_pos (by decide) (by decide) _)))) ev_c (by decide)) ev_c (div_ok (by decide) (by decide) _)
      obtain ⟨d, hd, ed⟩ := ev_digit (tb := tVar 1) hs (last _) (ev_var rfl)
      refine s_ret ed fun H11 e11 => q H11 d hd ⟨f5.ex (((((e6.trans e7).trans e8).trans e9).trans e10).trans e11), ?_⟩
      exact (hv5.at_ (by omega) (by omega)).ex (((((e6.trans e7).trans e8).trans e9).trans e10).trans e11)
theorem r_law_pen {K : PySem.W.Frag} : ∀ vs H Q E, sp_law_pen K vs H Q E → t_law_pen K (EndsK Q) (L2.start n_law_pen vs) H := by
  rintro vs H Q E ⟨a, ns, rfl, ha, q⟩
  intro p np
  have cut : EvL (tSl (rSlL K) (tVar 0) tNoPart (tPart (tC (.int 63)))) (L2.start n_law_pen [.ref a]) (upd H p (.dK [])) ((iI ns).take 63) := by
    have c := el_sl (K := K) (lo := none) (hi := some ((63 : Nat) : Int)) (ev_var (i := 0) (σ := L2.start n_law_pen [.ref a]) rfl) eo_none (eo_some ev_c) (ex_l (Ex.new (o := .dK []) np) ha)
    rw [cut_to] at c
    exact c
  refine cut _ (Ex.refl _) _ fun s H2 ns2 e2 hs2 => ⟨s, _, rfl, .inl (sq_of hs2), fun c nc => ?_⟩
  have hp2 : (upd H2 c (.lst ((iI ns).take 63))) p = some (.dK []) := by
    rw [upd_ne (fun z => by rw [← z, e2 _ _ upd_same] at nc; cases nc)]
    exact e2 _ _ upd_same
  refine ⟨hp2, [(.inr "cells", .ref c), (.inr "turn", .int 0), (.inr "left", .int 0)], rfl, by show 3 ≤ 15; decide, ?_⟩
  have nc0 : H c = none := fresh_back ((Ex.new np).trans e2) nc
  have cp : c ≠ p := fun z => by
    rw [z] at nc
    rw [e2 _ _ upd_same] at nc
    cases nc
  refine q _ p c ?_ np nc0 ⟨0, 0, ns.take 63, upd_same, ?_, Int.le_refl _, Int.le_refl _⟩
  · exact Ex.mut (((Ex.new np).trans e2).trans (Ex.new nc)) np
  · rw [upd_ne cp]
    rw [upd_same]
    unfold iI
    rw [List.map_take]
theorem r_law_pick {K : PySem.W.Frag} : ∀ vs H Q E, sp_law_pick K vs H Q E → t_law_pick K (EndsK Q) (L2.start n_law_pick vs) H := by
  rintro vs H Q E ⟨p, c, o, t, xs, rfl, hop, ho, hne, hlen, ht, hpen, q⟩
  have hl : 0 < xs.length := by
    cases xs with
    | nil => exact absurd rfl hne
    | cons a r => exact Nat.succ_pos _
  refine ⟨.ref o, rfl, .ref p, rfl, .ref o, rfl, o, xs, rfl, .inl (sq_of ho), ?_⟩
  refine ⟨p, c, t, xs.length, rfl, hl, by omega, ht, hpen, fun H' d hd g => ?_⟩
  have hx : xs[d]? = some xs[d] := List.getElem?_eq_getElem hd
  exact ⟨o, xs, (d : Int), xs[d], rfl, rfl, sq_of (g.1 _ _ ho hop), atI_nat hx, q H' d _ hx g⟩
end K28
end
section
namespace K28
open PySem PySem.Spec L2 PyProof.Rows Evl
theorem erase_perm : ∀ {l : List Nat} {d y : Nat}, l[d]? = some y → l.Perm (y :: l.eraseIdx d)
  | [], _, _, h => by cases h
  | x :: l, 0, y, h => by
    cases h
    exact .refl _
  | x :: l, d + 1, y, h => ((erase_perm (l := l) h).cons x).trans (List.Perm.swap y x _)
theorem nI_erase : ∀ (l : List Nat) (d : Nat), nI (l.eraseIdx d) = (nI l).eraseIdx d
  | [], _ => rfl
  | _ :: _, 0 => rfl
  | x :: l, d + 1 => congrArg (V.int (x : Int) :: ·) (nI_erase l d)
theorem erase_len {l : List Nat} {d y : Nat} (h : l[d]? = some y) : (l.eraseIdx d).length + 1 = l.length := by
  have := (erase_perm h).length_eq
  rw [List.length_cons] at this
  omega
/-- left and found of the law's drawings: L, F of H' -/
structure Two (H : Hp) (p c a b : Addr) (t : Nat) (L F : List Nat) (H' : Hp) : Prop where
  na : H a = none
  nb : H b = none
  ab : a ≠ b
  la : H' a = some (.lst (nI L))
  lb : H' b = some (.lst (nI F))
  go : PenGo p c t H H'
/-- found.append(left.pop(draw(pen, len(left)))) -/
theorem two_step {K : PySem.W.Frag} {H H' : Hp} {p c a b : Addr} {t : Nat} {L F : List Nat} {σ : L2.St} {D : Ends} {tp tl tf : TE} (w : Two H p c a b t L F H') (hp : PenAt H p c 0 ∨ ∃ u, PenAt H p c u) (hL : 0 < L.length) (hL2 : L.length ≤ 100) (hF : F.length ≤ 1000) (ht : t < 1000000)
    (h1 : ∀ H2, Ev tp σ H2 (.ref p)) (h2 : ∀ H2, Ev tl σ H2 (.ref a)) (h3 : ∀ H2, Ev tf σ H2 (.ref b))
    (k : ∀ (d y : Nat) H2, L[d]? = some y → Two H p c a b (t + 1) (L.eraseIdx d) (F ++ [y]) H2 → D.nx σ H2) :
    tDrop (tBM K "list" rAppend tf (tCons (tBM K "list" rPopAt tl (tCons (tCall (sp_law_draw K) [] E0 (tCons tp (tCons (tCB (rLenS K) (tCons tl tNil)) tNil))) tNil)) tNil)) D σ H' := by
  have pen : ∃ u, PenAt H p c u := by
    rcases hp with h | h
    · exact ⟨0, h⟩
    · exact h
  obtain ⟨u, pen⟩ := pen
  have pn : H p ≠ none := by
    obtain ⟨k, l, cells, h, _⟩ := pen
    rw [h]
    exact fun z => by cases z
  have ap : a ≠ p := fun z => pn (z ▸ w.na)
  have bp : b ≠ p := fun z => pn (z ▸ w.nb)
  refine h3 H' H' (Ex.refl _) _ fun H1 e1 => ⟨.inl ⟨rfl, _, sq_of (e1 _ _ w.lb)⟩, ?_⟩
  refine h2 H1 H1 (Ex.refl _) _ fun H2 e2 => ⟨.inl ⟨rfl, _, sq_of (e2 _ _ (e1 _ _ w.la))⟩, ?_⟩
  refine h1 H2 H2 (Ex.refl _) _ fun H3 e3 => ?_
  refine h2 H3 H3 (Ex.refl _) _ fun H4 e4 => ?_
  have e14 := ((e1.trans e2).trans e3).trans e4
  refine ⟨a, nI L, rfl, .inl (sq_of (e14 _ _ w.la)), ?_⟩
  refine ⟨p, c, t, L.length, by rw [nI_len]; rfl, hL, by omega, ht, w.go.2.ex e14, fun H5 d hd g => ?_⟩
  have hy : L[d]? = some L[d] := List.getElem?_eq_getElem hd
  have a5 : H5 a = some (.lst (nI L)) := g.1 _ _ (e14 _ _ w.la) ap
  have b5 : H5 b = some (.lst (nI F)) := g.1 _ _ (e14 _ _ w.lb) bp
  have go5 : PenGo p c (t + 1) H H5 := (w.go.ex e14).trans g
  refine ⟨a, nI L, (d : Int), d, .int (L[d] : Nat), rfl, rfl, a5, by omega, by omega, (L2.ixN_seq (ixN_nat (by rw [nI_len]; exact hd))).1, nI_at hy, ?_⟩
  refine ⟨b, nI F, .int (L[d] : Nat), rfl, rfl, ?_, sz_lt (by rw [nI_len]; omega), ?_⟩
  · rw [upd_ne w.ab.symm]
    exact b5
  · refine k d L[d] _ hy ⟨w.na, w.nb, w.ab, ?_, ?_, ⟨fun x o hx nx => ?_, ?_⟩⟩
    · rw [upd_ne w.ab, upd_same, nI_erase]
    · rw [upd_same, nI_app]
      rfl
    · rw [upd_ne (fun z => by rw [z, w.nb] at hx; cases hx), upd_ne (fun z => by rw [z, w.na] at hx; cases hx)]
      exact go5.1 x o hx nx
    · obtain ⟨k', l', cells, g1, g2, g3, g4⟩ := go5.2
      have ca : c ≠ a := fun z => by
        obtain ⟨k0, l0, cells0, _, q2, _⟩ := pen
        rw [z, w.na] at q2
        cases q2
      have cb : c ≠ b := fun z => by
        obtain ⟨k0, l0, cells0, _, q2, _⟩ := pen
        rw [z, w.nb] at q2
        cases q2
      refine ⟨k', l', cells, ?_, ?_, g3, g4⟩
      · rw [upd_ne bp.symm, upd_ne ap.symm]
        exact g1
      · rw [upd_ne cb, upd_ne ca]
        exact g2
theorem Two.ex {H H1 H2 : Hp} {p c a b : Addr} {t : Nat} {L F : List Nat} (w : Two H p c a b t L F H1) (e : Ex H1 H2) : Two H p c a b t L F H2 := ⟨w.na, w.nb, w.ab, e _ _ w.la, e _ _ w.lb, w.go.ex e⟩
theorem r_law_shuffled {K : PySem.W.Frag} : ∀ vs H Q E, sp_law_shuffled K vs H Q E → t_law_shuffled K (EndsK Q) (L2.start n_law_shuffled vs) H := by
  rintro vs H Q E ⟨p, c, o, t, l, rfl, ho, hl, ht, pen, q⟩
  refine q_parLL (xs := nI l) (ys := []) (el_list (ev_var rfl) (sq_of ho)) (el_lst ea_nil (Nat.zero_le _)) fun a b H1 na nb ab e1 ha hb => ?_
  refine q_while (fun m σ' H' => ∃ L F : List Nat, Two H p c a b (t + F.length) L F H' ∧ (F ++ L).Perm l ∧ m = L.length ∧ σ' = [some (.ref p), some (.ref o), some (.ref a), some (.ref b)]) l.length ⟨l, [], ⟨na, nb, ab, ha, hb, PenGo.of pen e1⟩, .refl _, rfl, rfl⟩ (fun m σ' H' hw => ?_)
  obtain ⟨L, F, w, perm, rfl, rfl⟩ := hw
  have hlen := perm.length_eq
  rw [List.length_append] at hlen
  refine ⟨!decide (L = []), et_neNil w.la (ev_var rfl), fun hb2 H2 e2 => ?_, fun hb2 H2 e2 => ?_⟩
  · have nonil := of_decide_eq_false (notT hb2)
    have hL : 0 < L.length := by
      cases L with
      | nil => exact absurd rfl nonil
      | cons x L => exact Nat.succ_pos _
    refine ⟨fun σ2 H2 => ∃ L' F' : List Nat, Two H p c a b (t + F'.length) L' F' H2 ∧ (F' ++ L').Perm l ∧ L'.length < L.length ∧ σ2 = [some (.ref p), some (.ref o), some (.ref a), some (.ref b)], fun σ2 H2 ⟨L', F', h1, h2, h3, h4⟩ => ⟨L'.length, h3, L', F', h1, h2, rfl, h4⟩, ?_⟩
    refine two_step (w.ex e2) (.inr ⟨t, pen⟩) hL (by omega) (by omega) (by omega) (fun _ => ev_var rfl) (fun _ => ev_var rfl) (fun _ => ev_var rfl) fun d y H3 hy w3 => ⟨L.eraseIdx d, F ++ [y], by rw [List.length_append]; exact w3, ?_, by have := erase_len hy; omega, rfl⟩
    rw [List.append_assoc]
    exact ((erase_perm hy).symm.append_left F).trans perm
  · have nil := of_decide_eq_true (notF hb2)
    subst nil
    rw [List.append_nil] at perm
    refine s_ret (ev_var rfl) fun H3 e3 => q H3 b F perm nb (e3 _ _ (e2 _ _ w.lb)) ?_
    exact ((w.go.ex e2).ex e3).up (by have : F.length = l.length := by simpa using hlen
                                      omega)
theorem r_law_few {K : PySem.W.Frag} : ∀ vs H Q E, sp_law_few K vs H Q E → t_law_few K (EndsK Q) (L2.start n_law_few vs) H := by
  rintro vs H Q E ⟨p, c, o, t, s, l, rfl, ho, hl, hs, ht, pen, q⟩
  refine q_parLL (xs := nI l) (ys := []) (el_list (ev_var rfl) (sq_of ho)) (el_lst ea_nil (Nat.zero_le _)) fun a b H1 na nb ab e1 ha hb => ?_
  have cnt : EvA (tCons (tCB rMin2 (tCons (tCB rInt1 (tCons (tVar 2) tNil)) (tCons (tCB (rLenS K) (tCons (tVar 3) tNil)) tNil))) tNil) [some (.ref p), some (.ref o), some (.int (s : Int)), some (.ref a), some (.ref b), none] H1 [.int ((min s l.length : Nat) : Int)] := by
    refine ea_cons (ev_is (ev_min2 (ev_int1 (ev_var rfl)) (ev_lenL (ev_var rfl) (sq_of ha))) ?_) ea_nil
    rw [nI_len]
    congr 1
    split <;> omega
  refine q_forR1 cnt ⟨by omega, by omega⟩ (fun i σ' H' => ∃ (L F : List Nat) (w5 : Option V), Two H p c a b (t + i) L F H' ∧ (∀ x ∈ L, x ∈ l) ∧ (∀ x ∈ F, x ∈ l) ∧ F.length = i ∧ L.length + i = l.length ∧ σ' = [some (.ref p), some (.ref o), some (.int (s : Int)), some (.ref a), some (.ref b), w5])
    (fun H2 e2 => ⟨l, [], none, ⟨na, nb, ab, e2 _ _ ha, e2 _ _ hb, PenGo.of pen (e1.trans e2)⟩, fun _ h => h, fun _ h => (by cases h), rfl, rfl, rfl⟩) (fun i σ' H' hi h => ?_) (fun σ' H' h => ?_)
  · obtain ⟨L, F, w5, w, hLl, hFl, hFi, hLi, rfl⟩ := h
    refine two_step w (.inr ⟨t, pen⟩) (by omega) (by omega) (by omega) (by omega) (fun _ => ev_var rfl) (fun _ => ev_var rfl) (fun _ => ev_var rfl) fun d y H3 hy w3 => ⟨L.eraseIdx d, F ++ [y], _, w3, fun x hx => hLl x (List.mem_of_mem_eraseIdx hx), fun x hx => ?_, by rw [List.length_append, hFi]; rfl, by have := erase_len hy; omega, rfl⟩
    rcases List.mem_append.mp hx with hx | hx
    · exact hFl x hx
    · rw [List.mem_singleton] at hx
      rw [hx]
      exact hLl y (List.mem_of_getElem? hy)
  · obtain ⟨L, F, w5, w, hLl, hFl, hFi, hLi, rfl⟩ := h
    exact s_ret (ev_var rfl) fun H3 e3 => q H3 b F hFl (by omega) nb (e3 _ _ w.lb) ((w.go.ex e3).up (by omega))
end K28
end
section
namespace K28
open PySem PySem.Spec L2 PyProof.Rows Evl
/-! ### words -/
theorem strC_len (l : List Nat) : (strC l).length = l.length := rfl
theorem strC_app (a b : List Nat) : strC a ++ strC b = strC (a ++ b) := by
  show (⟨a.toArray ++ b.toArray⟩ : Str) = ⟨(a ++ b).toArray⟩
  rw [List.append_toArray]
theorem strC_rev (l : List Nat) : revS (strC l) = strC l.reverse := rfl
theorem strC_at {l : List Nat} {i c : Nat} (h : (strC l).cps[i]? = some c) : l[i]? = some c := by
  unfold strC at h
  rw [List.getElem?_toArray] at h
  exact h
/-- over the signs of a text -/
theorem q_forC {σ : L2.St} {H : Hp} {D : Ends} {tu tz : TS} {te : TE} {j : Nat} {l : List Nat} (h : Ev te σ H (.str (strC l))) (Pv : Nat → L2.St → Hp → Prop) (h0 : ∀ H1, Ex H H1 → Pv 0 σ H1)
    (hs : ∀ i c σ' H', l[i]? = some c → Pv i σ' H' → tu { D with nx := Pv (i + 1), ct := Pv (i + 1), bk := tz D } (σ'.set j (some (.str (strC [c])))) H') (hd : ∀ σ' H', Pv l.length σ' H' → tz D σ' H') : tSeq (tFor (iStr te) (gName j) tu) tz D σ H :=
  h H (Ex.refl H) _ fun H1 e => ⟨strC l, rfl, fun i m σ' H' => m = l.length - i ∧ i ≤ l.length ∧ Pv i σ' H', ⟨l.length, by simp, Nat.zero_le _, h0 H1 e⟩, by
    rintro i m σ' H' ⟨rfl, hi, p⟩
    by_cases hlt : i < l.length
    · refine .inr ⟨hlt, Pv (i + 1), fun σ2 H2 p2 => ⟨l.length - (i + 1), by omega, rfl, hlt, p2⟩, fun x H2 y => ?_⟩
      obtain ⟨rfl, c, hc, rfl⟩ := y
      exact hs i c σ' _ (strC_at hc) p
    · have e : i = l.length := by omega
      subst e
      exact .inl ⟨Nat.le_refl _, hd σ' H' p⟩⟩
section
variable {σ : L2.St} {H : Hp} {ta tb tc : TE}
theorem ev_revS {l : List Nat} (h : Ev ta σ H (.str (strC l))) (hl : l.length ≤ 1000) : Ev (tRevS ta) σ H (.str (strC l.reverse)) := fun H1 e Q q => h H1 e _ fun H2 e2 => ⟨strC l, rfl, hl, q H2 e2⟩
theorem ev_catS {a b : List Nat} (h1 : Ev ta σ H (.str (strC a))) (h2 : Ev tb σ H (.str (strC b))) (hl : a.length + b.length ≤ 1000) : Ev (tOp rCatS ta tb) σ H (.str (strC (a ++ b))) := fun H1 e Q q =>
  h1 H1 e _ fun H2 e2 => h2 H2 (e.trans e2) _ fun H3 e3 => ⟨strC a, strC b, rfl, rfl, by rw [strC_len, strC_len]; have := sz_of (show a.length + b.length ≤ 100000 by omega); exact this, by rw [strC_app]; exact q H3 (e2.trans e3)⟩
theorem ev_ifT {t : TT} {te tf : TE} {b : Bool} {v : V} (h : EvT t σ H b) (h1 : b = true → Ev te σ H v) (h2 : b = false → Ev tf σ H v) : Ev (tIf t te tf) σ H v := fun H1 e Q q =>
  h H1 e _ fun H2 e2 => by
    cases b with
    | true => exact h1 rfl H2 (e.trans e2) Q fun H3 e3 => q H3 (e2.trans e3)
    | false => exact h2 rfl H2 (e.trans e2) Q fun H3 e3 => q H3 (e2.trans e3)
end
def addC (F : List Nat) (c : Nat) : List Nat := if c ∈ F then F else F ++ [c]
theorem onceC_snoc (l : List Nat) (c : Nat) : onceC (l ++ [c]) = addC (onceC l) c := by
  unfold onceC
  rw [List.foldl_append]
  rfl
theorem addC_len (F : List Nat) (c : Nat) : (addC F c).length ≤ F.length + 1 := by
  unfold addC
  split <;> simp
theorem onceC_le (l : List Nat) : (onceC l).length ≤ l.length := by
  have h : ∀ (l F : List Nat), (l.foldl (fun acc c => if c ∈ acc then acc else acc ++ [c]) F).length ≤ F.length + l.length := by
    intro l
    induction l with
    | nil => intro F; exact Nat.le_refl _
    | cons x l ih =>
      intro F
      rw [List.foldl_cons, List.length_cons]
      have h1 := ih (addC F x)
      have h2 := addC_len F x
      show (l.foldl _ (addC F x)).length ≤ _
      omega
  have h2 := h l []
  rw [List.length_nil, Nat.zero_add] at h2
  exact h2
theorem r_law_shortened {K : PySem.W.Frag} : ∀ vs H Q E, sp_law_shortened K vs H Q E → t_law_shortened K (EndsK Q) (L2.start n_law_shortened vs) H := by
  rintro vs H Q E ⟨l, w, rfl, hl, q⟩
  have tw : ∀ (σ : L2.St) H1, σ[1]? = some (some (.int (w : Int))) → EvT (tTest (tOp rEq (tVar 1) (tC (.int 0)))) σ H1 (decide (w = 0)) := fun σ H1 h => by
    have g := et_eq (H := H1) (ev_var h) (ev_c (v := .int 0)) rfl
    have e : decide (V.int (w : Int) = V.int 0) = decide (w = 0) := by
      rw [decide_eq_decide]
      constructor
      · intro z
        have : (w : Int) = 0 := by injection z
        omega
      · intro z
        rw [z]
        rfl
    rw [e] at g
    exact g
  generalize hm : (if w = 0 then l else l.reverse) = m
  have ml : m.length ≤ 20 := by
    rw [← hm]
    split
    · exact hl
    · rw [List.length_reverse]
      exact hl
  refine q_asg (v := .str (strC [])) ev_c fun H1 e1 => ?_
  refine q_asg (v := .str (strC m)) (ev_ifT (tw _ H1 rfl) (fun hb => ?_) (fun hb => ?_)) fun H2 e2 => ?_
  · rw [← hm, if_pos (of_decide_eq_true hb)]
    exact ev_var rfl
  · rw [← hm, if_neg (of_decide_eq_false hb)]
    exact ev_revS (ev_var rfl) (by omega)
  refine q_forC (l := m) (ev_var rfl) (fun i σ' H' => Ex H H' ∧ ∃ w4, σ' = [some (.str (strC l)), some (.int (w : Int)), some (.str (strC (onceC (m.take i)))), some (.str (strC m)), w4]) (fun H3 e3 => ⟨(e1.trans e2).trans e3, none, rfl⟩) (fun i c σ' H' hc p => ?_) (fun σ' H' p => ?_)
  · obtain ⟨e, w4, rfl⟩ := p
    have hi := (List.getElem?_eq_some_iff.mp hc).1
    have small : (onceC (m.take i)).length ≤ 20 := Nat.le_trans (onceC_le _) (by rw [List.length_take]; omega)
    have k : Ev (tOp rMulS (tVar 4) (tCB rInt1 (tCons (tOp rNotSign (tVar 4) (tVar 2)) tNil))) [some (.str (strC l)), some (.int (w : Int)), some (.str (strC (onceC (m.take i)))), some (.str (strC m)), some (.str (strC [c]))] H' (.str (strC (if c ∈ onceC (m.take i) then [] else [c]))) := fun J1 f1 Q1 q1 =>
      ⟨_, rfl, _, rfl, _, rfl, c, strC (onceC (m.take i)), rfl, rfl, .inr ⟨_, rfl, strC [c], _, rfl, rfl, by split <;> simp, by show 1 ≤ 1000; decide, by
        have g := q1 J1 (Ex.refl _)
        by_cases h : c ∈ onceC (m.take i)
        · rw [if_pos h] at g
          rw [show decide (c ∈ (strC (onceC (m.take i))).cps.toList) = true from decide_eq_true h]
          exact g
        · rw [if_neg h] at g
          rw [show decide (c ∈ (strC (onceC (m.take i))).cps.toList) = false from decide_eq_false h]
          exact g⟩⟩
    refine s_asg (ev_catS (ev_var rfl) k (by split <;> simp <;> omega)) fun H4 e4 => ⟨e.trans e4, some (.str (strC [c])), ?_⟩
    rw [take_succ_at hc, onceC_snoc]
    unfold addC
    by_cases h : c ∈ onceC (m.take i)
    · rw [if_pos h, if_pos h, List.append_nil]
      rfl
    · rw [if_neg h, if_neg h]
      rfl
  · obtain ⟨e, w4, rfl⟩ := p
    rw [List.take_length]
    refine s_ret (v := .str (strC (shortC w l))) (ev_ifT (tw _ H' rfl) (fun hb => ?_) (fun hb => ?_)) fun H4 e4 => q H4 (e.trans e4)
    · have h := of_decide_eq_true hb
      unfold shortC
      rw [if_pos h]
      rw [if_pos h] at hm
      rw [hm]
      exact ev_var rfl
    · have h := of_decide_eq_false hb
      unfold shortC
      rw [if_neg h]
      rw [if_neg h] at hm
      rw [hm]
      exact ev_revS (ev_var rfl) (by have := onceC_le m; omega)
end K28
end
section
namespace K28
open PySem PySem.Spec L2 PyProof.Rows Evl
/-! ### data of words -/
def sW (m : List (List Nat)) : List V := m.map fun l => V.str (strC l)
def dW (m : List (List Nat)) : PyData := .list (m.map fun l => PyData.str (strC l))
theorem dpAll_sW {K : PySem.W.Frag} {H : Hp} : ∀ m : List (List Nat), DpAll K H (sW m) (m.map fun l => PyData.str (strC l))
  | [] => .nil
  | x :: l => .cons (.str _) (dpAll_sW l)
theorem dp_sW {K : PySem.W.Frag} {H : Hp} {a : Addr} {m : List (List Nat)} (h : SqL K H a (sW m)) : Dp K H (.ref a) (dW m) := .lst h (dpAll_sW m)
def asc (l : List Nat) : Prop := ∀ c ∈ l, c < 128
theorem strC_ok {l : List Nat} (h : asc l) : PyData.strOk (strC l) = true := by
  show (l.toArray).all (· < 0x110000) = true
  rw [← Array.all_toList, List.all_eq_true]
  intro c hc
  have := h c hc
  rw [decide_eq_true_iff]
  omega
theorem lay_sW : ∀ m : List (List Nat), (∀ l ∈ m, asc l) → PyData.canLayAll0 (m.map fun l => PyData.str (strC l)) = true
  | [], _ => rfl
  | x :: l, h => by
    show (PyData.strOk (strC x) && PyData.canLayAll0 (l.map fun l => PyData.str (strC l))) = true
    rw [lay_sW l fun y hy => h y (List.mem_cons_of_mem _ hy), strC_ok (h x List.mem_cons_self)]
    rfl
theorem dep_sW : ∀ m : List (List Nat), PyData.depthAll (m.map fun l => PyData.str (strC l)) = 0
  | [] => rfl
  | x :: l => by
    show max 0 (PyData.depthAll (l.map fun l => PyData.str (strC l))) = 0
    rw [dep_sW l]
    rfl
theorem shaped_dW {m : List (List Nat)} (h : ∀ l ∈ m, asc l) : SeqAt.shaped (dW m) = true := by
  unfold SeqAt.shaped
  show (PyData.canLayAll0 _ && decide (PyData.depthAll _ + 1 ≤ 64)) = true
  rw [lay_sW m h, dep_sW m]
  rfl
theorem lay_dWs : ∀ M : List (List (List Nat)), (∀ m ∈ M, ∀ l ∈ m, asc l) → PyData.canLayAll0 (M.map dW) = true
  | [], _ => rfl
  | m :: M, h => by
    show (PyData.canLayAll0 _ && PyData.canLayAll0 (M.map dW)) = true
    rw [lay_dWs M fun y hy => h y (List.mem_cons_of_mem _ hy), lay_sW m (h m List.mem_cons_self)]
    rfl
theorem dep_dWs : ∀ M : List (List (List Nat)), PyData.depthAll (M.map dW) ≤ 1
  | [] => Nat.zero_le _
  | m :: M => by
    show max (PyData.depthAll _ + 1) (PyData.depthAll (M.map dW)) ≤ 1
    rw [dep_sW m]
    have := dep_dWs M
    omega
theorem shaped_dWs {M : List (List (List Nat))} (h : ∀ m ∈ M, ∀ l ∈ m, asc l) : SeqAt.shaped (.list (M.map dW)) = true := by
  unfold SeqAt.shaped
  show (PyData.canLayAll0 _ && decide (PyData.depthAll _ + 1 ≤ 64)) = true
  rw [lay_dWs M h, decide_eq_true (by have := dep_dWs M; omega)]
  rfl
theorem strC_inj {a b : List Nat} (h : strC a = strC b) : a = b := by
  have h1 : a.toArray = b.toArray := congrArg Str.cps h
  have h2 := congrArg Array.toList h1
  simpa using h2
theorem eqv_sW : ∀ a b : List (List Nat), PyData.eqvAll (a.map fun l => PyData.str (strC l)) (b.map fun l => PyData.str (strC l)) = decide (a = b)
  | [], [] => rfl
  | [], _ :: _ => rfl
  | _ :: _, [] => rfl
  | x :: a, y :: b => by
    rw [List.map_cons, List.map_cons, PyData.eqvAll, eqv_sW a b]
    show (strC x == strC y && decide (a = b)) = _
    by_cases h1 : x = y
    · subst h1
      simp
    · have h2 : (strC x == strC y) = false := by
        rw [beq_eq_false_iff_ne]
        exact fun z => h1 (strC_inj z)
      rw [h2]
      simp [h1]
theorem eqv_dW (a b : List (List Nat)) : PyData.eqv (dW a) (dW b) = decide (a = b) := by
  show PyData.eqv (.list _) (.list _) = _
  rw [PyData.eqv]
  exact eqv_sW a b
theorem dpAll_refs {α : Type} {K : PySem.W.Frag} {H : Hp} {g : α → PyData} : ∀ (as : List Addr) (M : List α), as.length = M.length → (∀ (i : Nat) (a : Addr) (x : α), as[i]? = some a → M[i]? = some x → Dp K H (.ref a) (g x)) → DpAll K H (as.map V.ref) (M.map g)
  | [], [], _, _ => .nil
  | [], _ :: _, h, _ => by cases h
  | _ :: _, [], h, _ => by cases h
  | a :: as, m :: M, h, f => .cons (f 0 a m rfl rfl) (dpAll_refs as M (by simpa using h) fun i b x hb hx => f (i + 1) b x hb hx)
theorem onceC_sub (l : List Nat) : ∀ c ∈ onceC l, c ∈ l := by
  have h : ∀ (l F : List Nat), ∀ c ∈ l.foldl (fun acc c => if c ∈ acc then acc else acc ++ [c]) F, c ∈ F ∨ c ∈ l := by
    intro l
    induction l with
    | nil => exact fun F c h => .inl h
    | cons x l ih =>
      intro F c hc
      rw [List.foldl_cons] at hc
      rcases ih _ c hc with h | h
      · split at h
        · exact .inl h
        · rcases List.mem_append.mp h with h | h
          · exact .inl h
          · rw [List.mem_singleton] at h
            subst h
            exact .inr List.mem_cons_self
      · exact .inr (List.mem_cons_of_mem _ h)
  intro c hc
  rcases h l [] c hc with h | h
  · cases h
  · exact h
theorem shortC_asc {w : Nat} {l : List Nat} (h : asc l) : asc (shortC w l) := by
  intro c hc
  unfold shortC at hc
  split at hc
  · exact h c (onceC_sub l c hc)
  · rw [List.mem_reverse] at hc
    have := onceC_sub _ c hc
    rw [List.mem_reverse] at this
    exact h c this
theorem marks_asc {ws l : List Nat} (h : asc l) : ∀ m ∈ marksOf ws l, asc m := fun m hm => by
  obtain ⟨w, _, rfl⟩ := List.mem_map.mp hm
  exact shortC_asc h
/-! ### the marks of a word -/
theorem el_marks {K : PySem.W.Frag} {σ : L2.St} {H : Hp} {b : Addr} {tl tw tv : TE} {j : Nat} {vs : List Nat} {ws l : List Nat} (h : Ev tl σ H (.ref b)) (hb : SqL K H b (nI ws)) (hws : ws.length ≤ 100) (hl : l.length ≤ 20) (hw : ∀ x, wipe ((wipe σ vs).set j (some x)) vs = wipe σ vs)
    (h1 : ∀ (x : V) H1, Ex H H1 → Ev tw ((wipe σ vs).set j (some x)) H1 (.str (strC l))) (h2 : ∀ (x : V) H1, Ev tv ((wipe σ vs).set j (some x)) H1 x) :
    EvL (tLc (iList K tl) (gName j) tYes (tCall (sp_law_shortened K) [] E0 (tCons tw (tCons tv tNil))) vs) σ H (sW (marksOf ws l)) := by
  refine el_map (a := b) (xs := nI ws) h hb (by rw [nI_len]; omega) (by unfold sW marksOf; rw [nI_len, List.length_map, List.length_map]) hw fun i v y H1 e hv hy => ?_
  obtain ⟨w, hwi, rfl⟩ := nI_of hv
  have ey : y = .str (strC (shortC w l)) := by
    unfold sW marksOf at hy
    rw [List.getElem?_map, List.getElem?_map, hwi] at hy
    cases hy
    rfl
  subst ey
  exact ev_callV (ea_cons (h1 _ H1 e) (ea_cons (h2 _ H1) ea_nil)) fun H2 e2 Q q => ⟨l, w, rfl, hl, fun H3 e3 => q H3 e3⟩
theorem rw_turnQ {H H' : Hp} {rows : List (List V)} {D : Addr} {i : Nat} {σ2 : L2.St} {te : TE} {x : List V} {Q : VK} (p : Rw H rows D i H') (hi : i < 50000) (hx : rows[i]? = some x) (he : EvL te σ2 H' x)
    (q : ∀ acc y H4, H4 D = some (.lst acc) → acc.length < sizeLine → Rw H rows D (i + 1) (upd H4 D (.lst (acc ++ [y]))) → Q y H4) : te σ2 H' Q := by
  have g := rw_turn (σ2 := σ2) (te := fun _ H1 Q' => Ex H' H1 → ∀ (a : Addr) H2, H1 a = none → Ex H1 H2 → H2 a = some (.lst x) → Q' (.ref a) H2) p hi hx (fun H1 e1 Q' q' => fun _ a H2 na e ha => q' a H2 na e ha)
  refine he H' (Ex.refl H') _ fun a H4 na e ha => ?_
  obtain ⟨acc, h1, h2, h3⟩ := g (Ex.refl H') a H4 na e ha
  exact q acc _ H4 h1 h2 h3
theorem Rw.ex {H H1 : Hp} {rows : List (List V)} {D : Addr} {i : Nat} (p : Rw H rows D i H1) : Ex H H1 := p.2.1
def wordTab (ws : List Nat) (L : List (List Nat)) : List (List Nat) := L.map fun a => L.map fun b => (L.map (marksOf ws)).idxOf (marksOf ws (a ++ b))
theorem wordTab_ok {ws : List Nat} {L : List (List Nat)} (h : wordsOk ws L = true) : TabOk L.length (wordTab ws L) := by
  unfold wordsOk at h
  rw [List.all_eq_true] at h
  refine ⟨List.length_map .., fun r hr => ?_⟩
  obtain ⟨a, ha, rfl⟩ := List.mem_map.mp hr
  refine ⟨List.length_map .., fun x hx => ?_⟩
  obtain ⟨b, hb, rfl⟩ := List.mem_map.mp hx
  have h1 := h a ha
  rw [List.all_eq_true] at h1
  have h2 := h1 b hb
  have h3 : marksOf ws (a ++ b) ∈ L.map (marksOf ws) := by simpa using h2
  have := List.idxOf_lt_length_of_mem h3
  rw [List.length_map] at this
  exact this
theorem idx_first {α : Type} [BEq α] [LawfulBEq α] {l : List α} {x : α} (h : x ∈ l) : l[l.idxOf x]? = some x ∧ ∀ (m : Nat) (y : α), m < l.idxOf x → l[m]? = some y → y ≠ x := by
  induction l with
  | nil => cases h
  | cons z l ih =>
    by_cases e : z = x
    · subst e
      rw [List.idxOf_cons_self]
      exact ⟨rfl, fun m y hm => absurd hm (Nat.not_lt_zero m)⟩
    · have hx : x ∈ l := by
        rcases List.mem_cons.mp h with h | h
        · exact absurd h.symm e
        · exact h
      have e0 : (z :: l).idxOf x = l.idxOf x + 1 := by
        rw [List.idxOf_cons, beq_eq_false_iff_ne.mpr e]
        rfl
      rw [e0]
      obtain ⟨h1, h2⟩ := ih hx
      refine ⟨h1, fun m y hm hy => ?_⟩
      cases m with
      | zero =>
        cases hy
        exact e
      | succ m => exact h2 m y (by omega) hy
theorem q_tupR {K : PySem.W.Frag} {σ : L2.St} {H : Hp} {D : Ends} {tz : TS} {te : TE} {i j : Nat} {rows : List (List V)} (h1 : EvR te σ H rows) (k : ∀ (p : Addr) (as : List Addr) H1, newAll H p as → Ex H H1 → H1 p = some (.lst (as.map V.ref)) → as.length = rows.length →
    (∀ (i : Nat) (a : Addr) (x : List V), as[i]? = some a → rows[i]? = some x → H1 a = some (.lst x)) → ∀ f t, H1 f = none → (upd H1 f (.lst [])) t = none → tz D ((σ.set i (some (.ref p))).set j (some (.ref f))) (upd (upd H1 f (.lst [])) t (.tup [.ref p, .ref f]))) :
    tSeq (tAsg (tTup (tCons te (tCons (tLst tNil) tNil))) (gTup K 2 (gCons (gName i) (gCons (gName j) gNil)))) tz D σ H :=
  h1 H (Ex.refl H) _ fun p as H1 nw nd e1 hp hl hr => ⟨Nat.zero_le _, fun f nf => ⟨by show 2 ≤ _; rw [sizeLine_eq]; decide, fun t nt => ⟨t, [.ref p, .ref f], rfl, st_of upd_same, rfl, .ref p, [.ref f], rfl, .ref f, [], rfl, rfl, k p as H1 nw e1 hp hl hr f t nf nt⟩⟩⟩
theorem r_law_word_rows {K : PySem.W.Frag} : ∀ vs H Q E, sp_law_word_rows K vs H Q E → t_law_word_rows K (EndsK Q) (L2.start n_law_word_rows vs) H := by
  rintro vs H Q E ⟨a, b, L, ws, rfl, ha, hb, hL, _, hws, hLl, ok, q⟩
  have hLa : ∀ {i : Nat} {v : V}, (L.map fun l => V.str (strC l))[i]? = some v → ∃ l, L[i]? = some l ∧ v = .str (strC l) := fun {i v} h => by
    rw [List.getElem?_map] at h
    cases e : L[i]? with
    | none =>
      rw [e] at h
      cases h
    | some l =>
      rw [e] at h
      cases h
      exact ⟨l, rfl, rfl⟩
  have mk : EvR (tLc (iList K (tVar 0)) (gName 5) tYes (tLc (iList K (tVar 1)) (gName 6) tYes (tCall (sp_law_shortened K) [] E0 (tCons (tVar 5) (tCons (tVar 6) tNil))) [6]) [5]) (L2.start n_law_word_rows [.ref a, .ref b]) H ((L.map (marksOf ws)).map sW) := by
    refine er_lcL (a := a) (ev_var rfl) ha (by rw [List.length_map]; omega) (by rw [List.length_map, List.length_map, List.length_map]) (fun _ => rfl) fun i v x H1 e hv hx => ?_
    obtain ⟨l, hl, rfl⟩ := hLa hv
    rw [List.getElem?_map, List.getElem?_map, hl] at hx
    cases hx
    exact el_marks (b := b) (ev_var rfl) (ex_l e hb) (by omega) (by have := (hLl l (List.mem_of_getElem? hl)).1; omega) (fun _ => rfl) (fun _ H1 _ => ev_var rfl) fun _ _ => ev_var rfl
  refine q_tupR mk fun p as H1 nw e1 hp hl hr f t nf nt => ?_
  have ft : f ≠ t := fun z => by
    rw [← z, upd_same] at nt
    cases nt
  have w0 : Rw H1 ((wordTab ws L).map nI) f 0 (upd (upd H1 f (.lst [])) t (.tup [.ref p, .ref f])) := ⟨nf, (Ex.new nf).trans (Ex.new nt), [], rfl, List.nodup_nil, by simp, by simp, by rw [upd_ne ft]; exact upd_same, fun j a x hj _ => by cases hj⟩
  have asc2 : ∀ m ∈ L.map (marksOf ws), ∀ l ∈ m, asc l := fun m hm => by
    obtain ⟨l, hl, rfl⟩ := List.mem_map.mp hm
    exact marks_asc (hLl l hl).2
  have dpm : ∀ {H2}, Ex H1 H2 → Dp K H2 (.ref p) (.list ((L.map (marksOf ws)).map dW)) := fun {H2} e2 => .lst (sq_of (e2 _ _ hp)) (dpAll_refs as (L.map (marksOf ws)) (by rw [hl, List.length_map]) fun i a x h1 h2 => dp_sW (sq_of (e2 _ _ (hr i a (sW x) h1 (by rw [List.getElem?_map, h2]; rfl)))))
  refine q_forLn (a := a) (xs := L.map fun l => V.str (strC l)) (ev_var rfl) (ex_l (e1.trans w0.ex) ha) (fun i σ' H' => Rw H1 ((wordTab ws L).map nI) f i H' ∧ ∃ w4, σ' = [some (.ref a), some (.ref b), some (.ref p), some (.ref f), w4, none, none, none]) (fun H2 e2 => ⟨?_, none, rfl⟩) (fun i σ' H' _ p => ex_l (e1.trans p.1.ex) ha) (fun i v σ' H' hv p => ?_) (fun σ' H' p => ?_)
  · obtain ⟨nD, ee, as2, g1, g2, g3, g4, g5, g6⟩ := w0
    exact ⟨nD, ee.trans e2, as2, g1, g2, g3, g4, e2 _ _ g5, fun j a x hj hx => e2 _ _ (g6 j a x hj hx)⟩
  · obtain ⟨w, w4, rfl⟩ := p
    obtain ⟨l, hli, rfl⟩ := hLa hv
    have hi : i < L.length := (List.getElem?_eq_some_iff.mp hli).1
    have lm := List.mem_of_getElem? hli
    obtain ⟨_, _, as2, g1, _, _, _, g5, _⟩ := id w
    refine ⟨.ref f, rfl, .inl ⟨rfl, _, sq_of g5⟩, ?_⟩
    refine rw_turnQ (x := nI (L.map fun b => (L.map (marksOf ws)).idxOf (marksOf ws (l ++ b)))) w (by omega) (by unfold wordTab; rw [List.getElem?_map, List.getElem?_map, hli]; rfl) ?_ fun acc y H4 h1 h2 h3 => ⟨f, acc, y, rfl, rfl, h1, h2, h3, _, rfl⟩
    refine el_map (a := a) (ev_var rfl) (ex_l (e1.trans w.ex) ha) (by rw [List.length_map]; omega) (by rw [nI_len, List.length_map, List.length_map]) (fun _ => rfl) fun k v y H2 e2 hv hy => ?_
    obtain ⟨l2, hl2, rfl⟩ := hLa hv
    have l2m := List.mem_of_getElem? hl2
    rw [nI_at (x := (L.map (marksOf ws)).idxOf (marksOf ws (l ++ l2))) (by rw [List.getElem?_map, hl2]; rfl)] at hy
    cases hy
    have e12 := w.ex.trans e2
    have cat : ∀ (x : V) H3, Ev (tOp rCatS (tVar 4) (tVar 7)) [some (.ref a), some (.ref b), some (.ref p), some (.ref f), some (.str (strC l)), none, some x, some (.str (strC l2))] H3 (.str (strC (l ++ l2))) := fun x H3 => ev_catS (ev_var rfl) (ev_var rfl) (by have := (hLl l lm).1; have := (hLl l2 l2m).1; omega)
    have mem : marksOf ws (l ++ l2) ∈ L.map (marksOf ws) := by
      unfold wordsOk at ok
      rw [List.all_eq_true] at ok
      have h1 := ok l lm
      rw [List.all_eq_true] at h1
      have h2 := h1 l2 l2m
      simpa using h2
    intro J1 f1 Q1 q1
    refine ⟨.ref p, rfl, .inl ⟨rfl, _, sq_of (f1 _ _ (e12 _ _ hp))⟩, ?_⟩
    refine (el_marks (l := l ++ l2) (ws := ws) (b := b) (ev_var rfl) (ex_l ((e1.trans e12).trans f1) hb) (by omega) (by have := (hLl l lm).1; have := (hLl l2 l2m).1; rw [List.length_append]; omega) (fun _ => rfl) (fun x H3 _ => cat x H3) (fun _ _ => ev_var rfl) : EvL _ _ J1 _) J1 (Ex.refl _) _ fun c J2 nc f2 hc => ?_
    obtain ⟨i1, i2⟩ := idx_first mem
    refine ⟨p, .ref c, dW (marksOf ws (l ++ l2)), (L.map (marksOf ws)).map dW, (L.map (marksOf ws)).idxOf (marksOf ws (l ++ l2)), dW (marksOf ws (l ++ l2)), rfl, rfl, dpm ((e12.trans f1).trans f2), dp_sW (sq_of hc), shaped_dWs asc2, shaped_dW (asc2 _ mem), ?_, ?_, fun m z' hm hz => ?_, q1 J2 f2⟩
    · rw [List.getElem?_map, i1]
      rfl
    · rw [eqv_dW]
      exact decide_eq_true rfl
    · rw [List.getElem?_map] at hz
      cases em : (L.map (marksOf ws))[m]? with
      | none =>
        rw [em] at hz
        cases hz
      | some y =>
        rw [em] at hz
        cases hz
        rw [eqv_dW]
        exact decide_eq_false (i2 m y hm em)
  · obtain ⟨w, w4, rfl⟩ := p
    rw [List.length_map] at w
    obtain ⟨nD, ee, as2, g1, g2, g3, g4, g5, g6⟩ := w
    refine s_ret (ev_var rfl) fun H3 e3 => q H3 f as2 (wordTab ws L) ((e1.trans ee).trans e3) ⟨fresh_back e1 nD, fun x hx => fresh_back e1 (g4 x hx)⟩ ⟨e3 _ _ g5, by rw [g1]; unfold wordTab; rw [List.length_map], fun i x r hx hr => e3 _ _ (g6 i x (nI r) hx (by rw [List.getElem?_map, hr]; rfl))⟩ (wordTab_ok ok)
end K28
end
section
namespace K28
open PySem PySem.Spec L2 PyProof.Rows Evl
/-! ### rows made -/
theorem PenGo.new {H H1 : Hp} {p c D : Addr} {t u : Nat} {o : HO} (g : PenGo p c t H H1) (hp : PenAt H p c u) (nD : H D = none) : PenGo p c t H (upd H1 D o) := by
  obtain ⟨k0, l0, cells0, p0, c0, _, _⟩ := hp
  obtain ⟨k, l, cells, h1, h2, h3, h4⟩ := g.2
  refine ⟨fun x o2 hx nx => ?_, k, l, cells, ?_, ?_, h3, h4⟩
  · rw [upd_ne (fun z => by rw [z, nD] at hx; cases hx)]
    exact g.1 x o2 hx nx
  · rw [upd_ne (fun z => by rw [z, nD] at p0; cases p0)]
    exact h1
  · rw [upd_ne (fun z => by rw [z, nD] at c0; cases c0)]
    exact h2
/-- new rows of the numbers R -/
def EvW (te : TE) (σ : L2.St) (H : Hp) (R : List (List Nat)) : Prop := ∀ H1, Ex H H1 → ∀ Q : VK, (∀ (p : Addr) (as : List Addr) H2, newAll H1 p as → Ex H1 H2 → RowsAt H2 p as R → Q (.ref p) H2) → te σ H1 Q
theorem ew_R {te : TE} {σ : L2.St} {H : Hp} {R : List (List Nat)} (h : EvR te σ H (R.map nI)) : EvW te σ H R := fun H1 e Q q => er_rows h H1 e Q fun p as H2 n _ e2 hr => q p as H2 n e2 hr
def EvAW (ta : TA) (σ : L2.St) (H : Hp) (R : List (List Nat)) : Prop := ∀ H1, Ex H H1 → ∀ Q : List V → Hp → Prop, (∀ (as : List Addr) H2, (∀ a ∈ as, H1 a = none) → Ex H1 H2 → as.length = R.length → (∀ (i : Nat) (a : Addr) (x : List Nat), as[i]? = some a → R[i]? = some x → H2 a = some (.lst (nI x))) → Q (as.map V.ref) H2) → ta σ H1 Q
theorem eaw_nil {σ : L2.St} {H : Hp} : EvAW tNil σ H [] := fun H1 e Q q => q [] H1 (by simp) (Ex.refl _) rfl fun i a x h _ => by cases h
theorem eaw_cons {σ : L2.St} {H : Hp} {te : TE} {ta : TA} {x : List Nat} {R : List (List Nat)} (h : EvL te σ H (nI x)) (hr : EvAW ta σ H R) : EvAW (tCons te ta) σ H (x :: R) := fun H1 e Q q =>
  h H1 e _ fun a H2 na e2 ha => hr H2 (e.trans e2) _ fun as H3 nas e3 hl hx => q (a :: as) H3 (fun b hb => by
    rcases List.mem_cons.mp hb with hb | hb
    · rw [hb]
      exact na
    · exact fresh_back e2 (nas b hb)) (e2.trans e3) (by rw [List.length_cons, List.length_cons, hl]) fun i b y hb hy => by
    cases i with
    | zero =>
      cases hb
      cases hy
      exact e3 _ _ ha
    | succ i => exact hx i b y hb hy
theorem ew_lst {σ : L2.St} {H : Hp} {ta : TA} {R : List (List Nat)} (h : EvAW ta σ H R) (hR : R.length ≤ 1000) : EvW (tLst ta) σ H R := fun H1 e Q q =>
  h H1 e _ fun as H2 nas e2 hl hx => ⟨sz_of (by rw [List.length_map]; omega), fun p np => q p as _ ⟨fresh_back e2 np, nas⟩ (e2.trans (Ex.new np)) ⟨upd_same, hl, fun i a x ha hx2 => Ex.new np _ _ (hx i a x ha hx2)⟩⟩
/-- the table of a function -/
def genR (n : Nat) (f : Nat → Nat → Nat) : List (List Nat) := (List.range n).map fun a => (List.range n).map fun b => f a b
theorem genR_ok {n : Nat} {f : Nat → Nat → Nat} (h : ∀ a b, a < n → b < n → f a b < n) : TabOk n (genR n f) := by
  unfold genR
  refine ⟨by rw [List.length_map, List.length_range], fun r hr => ?_⟩
  obtain ⟨a, ha, rfl⟩ := List.mem_map.mp hr
  rw [List.mem_range] at ha
  refine ⟨by rw [List.length_map, List.length_range], fun x hx => ?_⟩
  obtain ⟨b, hb, rfl⟩ := List.mem_map.mp hx
  rw [List.mem_range] at hb
  exact h a b ha hb
theorem range_at {n i a : Nat} (h : (List.range n)[i]? = some a) : a = i ∧ i < n := by
  obtain ⟨h1, h2⟩ := List.getElem?_eq_some_iff.mp h
  rw [List.getElem_range] at h2
  rw [List.length_range] at h1
  exact ⟨h2.symm, h1⟩
theorem nIr_at {n i : Nat} {v : V} (h : (nI (List.range n))[i]? = some v) : v = .int (i : Int) ∧ i < n := by
  obtain ⟨x, hx, rfl⟩ := nI_of h
  obtain ⟨rfl, hi⟩ := range_at hx
  exact ⟨rfl, hi⟩
theorem map_at {α β : Type} {f : α → β} {l : List α} {i : Nat} {y : β} (h : (l.map f)[i]? = some y) : ∃ x, l[i]? = some x ∧ y = f x := by
  rw [List.getElem?_map] at h
  cases e : l[i]? with
  | none =>
    rw [e] at h
    cases h
  | some x =>
    rw [e] at h
    cases h
    exact ⟨x, rfl, rfl⟩
theorem gen_row {n i : Nat} {f : Nat → Nat → Nat} {x : List V} (h : ((genR n f).map nI)[i]? = some x) : i < n ∧ x = nI ((List.range n).map fun b => f i b) := by
  obtain ⟨r, hr, rfl⟩ := map_at h
  obtain ⟨a, ha, rfl⟩ := map_at hr
  obtain ⟨rfl, hi⟩ := range_at ha
  exact ⟨hi, rfl⟩
theorem rgV_nat (n : Nat) : rgV 0 (n : Int) = nI (List.range n) := by
  unfold rgV nI
  rw [show ((n : Int) - 0).toNat = n by omega]
  refine List.map_congr_left fun i _ => ?_
  rw [Int.zero_add]
section
variable {K : PySem.W.Frag} {σ : L2.St} {H : Hp} {te tl tl2 : TE} {n : Nat} {f : Nat → Nat → Nat} {s : Addr} {i j : Nat}
/-- [[f(a, b) for b in span] for a in span] -/
theorem ew_gen (hn : n ≤ 100) (h : Ev tl σ H (.ref s)) (hs : H s = some (.lst (nI (List.range n)))) (hwi : ∀ x, wipe ((wipe σ [i]).set i (some x)) [i] = wipe σ [i]) (hwj : ∀ x y, wipe ((wipe ((wipe σ [i]).set i (some x)) [j]).set j (some y)) [j] = wipe ((wipe σ [i]).set i (some x)) [j])
    (h2 : ∀ (x : V) H1, Ev tl2 ((wipe σ [i]).set i (some x)) H1 (.ref s)) (he : ∀ (a b : Nat) H1, Ex H H1 → a < n → b < n → Ev te ((wipe ((wipe σ [i]).set i (some (.int (a : Int)))) [j]).set j (some (.int (b : Int)))) H1 (.int ((f a b : Nat) : Int))) :
    EvW (tLc (iList K tl) (gName i) tYes (tLc (iList K tl2) (gName j) tYes te [j]) [i]) σ H (genR n f) := by
  refine ew_R (er_lcL (a := s) h (sq_of hs) (by rw [nI_len, List.length_range]; omega) (by unfold genR; rw [nI_len, List.length_map, List.length_map]) hwi fun a v x H1 e hv hx => ?_)
  obtain ⟨rfl, ha⟩ := nIr_at hv
  obtain ⟨_, rfl⟩ := gen_row hx
  refine el_map (a := s) (h2 _ H1) (sq_of (e _ _ hs)) (by rw [nI_len, List.length_range]; omega) (by rw [nI_len, nI_len, List.length_map]) (hwj _) fun b v y H2 e2 hv hy => ?_
  obtain ⟨rfl, hb⟩ := nIr_at hv
  obtain ⟨z, hz, rfl⟩ := nI_of hy
  obtain ⟨w, hw, rfl⟩ := map_at hz
  obtain ⟨rfl, _⟩ := range_at hw
  exact he a _ H2 (e.trans e2) ha hb
/-- over range(n), range(n) -/
theorem ew_genR {ta ta2 : TA} (hn : n ≤ 100) (h : EvA ta σ H [.int (n : Int)]) (hwi : ∀ x, wipe ((wipe σ [i]).set i (some x)) [i] = wipe σ [i]) (hwj : ∀ x y, wipe ((wipe ((wipe σ [i]).set i (some x)) [j]).set j (some y)) [j] = wipe ((wipe σ [i]).set i (some x)) [j])
    (h2 : ∀ (x : V) H1, EvA ta2 ((wipe σ [i]).set i (some x)) H1 [.int (n : Int)]) (he : ∀ (a b : Nat) H1, Ex H H1 → a < n → b < n → Ev te ((wipe ((wipe σ [i]).set i (some (.int (a : Int)))) [j]).set j (some (.int (b : Int)))) H1 (.int ((f a b : Nat) : Int))) :
    EvW (tLc (iRng1 ta) (gName i) tYes (tLc (iRng1 ta2) (gName j) tYes te [j]) [i]) σ H (genR n f) := by
  refine ew_R (er_lcR1 h (by omega) (by unfold genR; rw [List.length_map, List.length_map, List.length_range]) hwi fun a x H1 e hx => ?_)
  obtain ⟨ha, rfl⟩ := gen_row hx
  refine el_mapR (h2 _ H1) (by omega) (by rw [nI_len, List.length_map, List.length_range]) (hwj _) fun b y H2 e2 hy => ?_
  obtain ⟨z, hz, rfl⟩ := nI_of hy
  obtain ⟨w, hw, rfl⟩ := map_at hz
  obtain ⟨rfl, hb⟩ := range_at hw
  exact he a _ H2 (e.trans e2) ha hb
/-! ### rows drawn -/
theorem q_drawRow {tp tn : TE} {m t p c u : Nat} {vs : List Nat} {Q : VK} (hm : m ≤ 100) (hn : 0 < n) (hn2 : n < 1000) (ht : t + m < 1000000) (pen : PenAt H p c t) (h : Ev tl σ H (.ref s)) (hs : H s = some (.lst (nI (List.range m)))) (hw : ∀ x, wipe ((wipe σ vs).set j (some x)) vs = wipe σ vs)
    (h1 : ∀ (x : V) H1, Ev tp ((wipe σ vs).set j (some x)) H1 (.ref p)) (h2 : ∀ (x : V) H1, Ev tn ((wipe σ vs).set j (some x)) H1 (.int (n : Int)))
    (q : ∀ (a : Addr) (l : List Nat) H2, H a = none → H2 a = some (.lst (nI l)) → l.length = m → (∀ x ∈ l, x < n) → PenGo p c (t + m) H H2 → Q (.ref a) H2) :
    tLc (iList K tl) (gName j) tYes (tCall (sp_law_draw K) [] E0 (tCons tp (tCons tn tNil))) vs σ H Q := by
  refine h H (Ex.refl H) _ fun H1 e1 => ⟨s, rfl, ⟨_, sq_of (e1 _ _ hs)⟩, fun D nD => ?_⟩
  have pen1 := pen.ex e1
  have hs1 := e1 _ _ hs
  have sD : s ≠ D := fun z => by
    rw [← z, hs1] at nD
    cases nD
  refine lc_list (xs := nI (List.range m)) (fun i H' => ∃ l : List Nat, l.length = i ∧ (∀ x ∈ l, x < n) ∧ H' D = some (.lst (nI l)) ∧ PenGo p c (t + i) H1 H') ⟨[], rfl, by simp, upd_same, PenGo.new (PenGo.of pen1 (Ex.refl H1)) pen1 nD⟩ (fun i H' _ w => ?_) (fun i v H' hv w => ?_) (fun H' w => ?_)
  · obtain ⟨l, _, _, _, g⟩ := w
    exact sq_of (g.lst pen1 hs1)
  · obtain ⟨l, hl, hlt, hD, g⟩ := w
    obtain ⟨rfl, hi⟩ := nIr_at hv
    refine ⟨hw _, yes_go ?_⟩
    refine h1 _ H' H' (Ex.refl _) _ fun H2 f2 => h2 _ H2 H2 (Ex.refl _) _ fun H3 f3 => ?_
    refine ⟨p, c, t + i, n, rfl, hn, hn2, by omega, g.2.ex (f2.trans f3), fun H4 d hd g4 => ?_⟩
    have hD3 := (f2.trans f3) _ _ hD
    have pen3 := g.2.ex (f2.trans f3)
    have hD4 := g4.lst pen3 hD3
    refine ⟨nI l, hD4, sz_lt (by rw [nI_len]; omega), l ++ [d], by rw [List.length_append, hl]; rfl, fun x hx => ?_, by rw [upd_same, nI_app]; rfl, ?_⟩
    · rcases List.mem_append.mp hx with hx | hx
      · exact hlt x hx
      · rw [List.mem_singleton] at hx
        rw [hx]
        exact hd
    · exact PenGo.new ((g.ex (f2.trans f3)).trans g4) pen1 nD
  · obtain ⟨l, hl, hlt, hD, g⟩ := w
    rw [nI_len, List.length_range] at hl g
    exact q D l H' (fresh_back e1 nD) hD hl hlt ((PenGo.of pen e1).trans g)
theorem q_drawRows {tp tn : TE} {t p c : Nat} {Q : VK} (hn : 0 < n) (hn2 : n ≤ 7) (ht : t + 100 < 1000000) (pen : PenAt H p c t) (h : Ev tl σ H (.ref s)) (hs : H s = some (.lst (nI (List.range n)))) (hwi : ∀ x, wipe ((wipe σ [i]).set i (some x)) [i] = wipe σ [i]) (hwj : ∀ x y, wipe ((wipe ((wipe σ [i]).set i (some x)) [j]).set j (some y)) [j] = wipe ((wipe σ [i]).set i (some x)) [j])
    (h0 : ∀ (x : V) H1, Ev tl2 ((wipe σ [i]).set i (some x)) H1 (.ref s))
    (h1 : ∀ (x y : V) H1, Ev tp ((wipe ((wipe σ [i]).set i (some x)) [j]).set j (some y)) H1 (.ref p)) (h2 : ∀ (x y : V) H1, Ev tn ((wipe ((wipe σ [i]).set i (some x)) [j]).set j (some y)) H1 (.int (n : Int)))
    (q : ∀ (r : Addr) (as : List Addr) (R : List (List Nat)) H2, newAll H r as → RowsAt H2 r as R → TabOk n R → PenGo p c (t + 50) H H2 → Q (.ref r) H2) :
    tLc (iList K tl) (gName i) tYes (tLc (iList K tl2) (gName j) tYes (tCall (sp_law_draw K) [] E0 (tCons tp (tCons tn tNil))) [j]) [i] σ H Q := by
  refine h H (Ex.refl H) _ fun H1 e1 => ⟨s, rfl, ⟨_, sq_of (e1 _ _ hs)⟩, fun D nD => ?_⟩
  have pen1 := pen.ex e1
  have hs1 := e1 _ _ hs
  refine lc_list (xs := nI (List.range n)) (fun i H' => ∃ (as : List Addr) (R : List (List Nat)), as.length = i ∧ R.length = i ∧ (∀ a ∈ as, H1 a = none ∧ a ≠ D) ∧ H' D = some (.lst (as.map V.ref)) ∧ (∀ (j : Nat) (a : Addr) (x : List Nat), as[j]? = some a → R[j]? = some x → H' a = some (.lst (nI x))) ∧ (∀ r ∈ R, r.length = n ∧ ∀ x ∈ r, x < n) ∧ PenGo p c (t + i * 7) H1 H')
    ⟨[], [], rfl, rfl, by simp, upd_same, (fun j a x hj _ => by cases hj), by simp, by rw [Nat.zero_mul]; exact PenGo.new (PenGo.of pen1 (Ex.refl H1)) pen1 nD⟩ (fun i H' _ w => ?_) (fun i v H' hv w => ?_) (fun H' w => ?_)
  · obtain ⟨as, R, _, _, _, _, _, _, g⟩ := w
    exact sq_of (g.lst pen1 hs1)
  · obtain ⟨as, R, hl, hR, fr, hD, rows, ok, g⟩ := w
    obtain ⟨rfl, hi⟩ := nIr_at hv
    refine ⟨hwi _, yes_go ?_⟩
    refine q_drawRow (m := n) (u := 0) (by omega) hn (by omega) (by omega) g.2 (h0 _ H') (g.lst pen1 hs1) (hwj _) (h1 _) (h2 _) fun a l H4 na ha hla hlt g4 => ?_
    have hD4 := g4.lst g.2 hD
    have aD : a ≠ D := fun z => by
      rw [z, hD] at na
      cases na
    refine ⟨_, hD4, sz_lt (by rw [List.length_map]; omega), as ++ [a], R ++ [l], by rw [List.length_append, hl]; rfl, by rw [List.length_append, hR]; rfl, fun b hb => ?_, by rw [upd_same, List.map_append]; rfl, fun k b x hb hx => ?_, fun r hr => ?_, ?_⟩
    · rcases List.mem_append.mp hb with hb | hb
      · exact fr b hb
      · rw [List.mem_singleton] at hb
        rw [hb]
        exact ⟨free_pen g pen1 na, aD⟩
    · by_cases hk : k < as.length
      · rw [List.getElem?_append_left hk] at hb
        rw [List.getElem?_append_left (by omega)] at hx
        rw [upd_ne (fr b (List.mem_of_getElem? hb)).2]
        exact g4.lst g.2 (rows k b x hb hx)
      · rw [List.getElem?_append_right (by omega), hl] at hb
        rw [List.getElem?_append_right (by omega), hR] at hx
        have e0 : k - i = 0 := by
          have := (List.getElem?_eq_some_iff.mp hb).1
          simp at this
          omega
        rw [e0] at hb hx
        cases hb
        cases hx
        rw [upd_ne aD]
        exact ha
    · rcases List.mem_append.mp hr with hr | hr
      · exact ok r hr
      · rw [List.mem_singleton] at hr
        rw [hr]
        exact ⟨hla, hlt⟩
    · exact PenGo.new ((g.trans g4).up (by omega)) pen1 nD
  · obtain ⟨as, R, hl, hR, fr, hD, rows, ok, g⟩ := w
    rw [nI_len, List.length_range] at hl hR g
    exact q D as R H' ⟨fresh_back e1 nD, fun a ha => fresh_back e1 (fr a ha).1⟩ ⟨hD, by omega, rows⟩ ⟨hR, ok⟩ (((PenGo.of pen e1).trans g).up (by omega))
end
end K28
end
section
namespace K28
open PySem PySem.Spec L2 PyProof.Rows Evl
theorem et_eqn {σ : L2.St} {H : Hp} {te : TE} {w : Nat} (k : Nat) (h : Ev te σ H (.int (w : Int))) : EvT (tTest (tOp rEq te (tC (.int (k : Int))))) σ H (decide (w = k)) := by
  have g := et_eq h (ev_c (v := .int (k : Int))) rfl
  have e : decide (V.int (w : Int) = V.int (k : Int)) = decide (w = k) := by
    rw [decide_eq_decide]
    constructor
    · intro z
      have : (w : Int) = (k : Int) := by injection z
      omega
    · intro z
      rw [z]
  rw [e] at g
  exact g
theorem et_ltn {σ : L2.St} {H : Hp} {te : TE} {w : Nat} (k : Nat) (h : Ev te σ H (.int (w : Int))) : EvT (tTest (tOp rLtK te (tC (.int (k : Int))))) σ H (decide (w < k)) := by
  have g := et_lt h (ev_c (v := .int (k : Int)))
  have e : decide ((w : Int) < (k : Int)) = decide (w < k) := by
    rw [decide_eq_decide]
    omega
  rw [e] at g
  exact g
theorem words_at {K : PySem.W.Frag} {H : Hp} {a : Addr} {L : List (List Nat)} {vs : List V} (e : vs = L.map fun l => V.str (strC l)) (h : H a = some (.lst vs)) : SqL K H a (L.map fun l => V.str (strC l)) := by
  rw [← e]
  exact sq_of h
def L2w : List (List Nat) := [[], [97]]
def L5w : List (List Nat) := [[], [97], [98], [97, 98], [98, 97]]
def L7w : List (List Nat) := L5w ++ [[97, 98, 97], [98, 97, 98]]
theorem t_e : ("" : Str) = strC [] := by decide +kernel
theorem t_a : ("a" : Str) = strC [97] := by decide +kernel
theorem t_b : ("b" : Str) = strC [98] := by decide +kernel
theorem t_ab : ("ab" : Str) = strC [97, 98] := by decide +kernel
theorem t_ba : ("ba" : Str) = strC [98, 97] := by decide +kernel
theorem t_aba : ("aba" : Str) = strC [97, 98, 97] := by decide +kernel
theorem t_bab : ("bab" : Str) = strC [98, 97, 98] := by decide +kernel
theorem l2_is : [V.str "", V.str "a"] = L2w.map fun l => V.str (strC l) := by
  rw [t_e, t_a]
  rfl
theorem l5_is : [V.str "", V.str "a", V.str "b", V.str "ab", V.str "ba"] = L5w.map fun l => V.str (strC l) := by
  rw [t_e, t_a, t_b, t_ab, t_ba]
  rfl
theorem l7_is : [V.str "", V.str "a", V.str "b", V.str "ab", V.str "ba"] ++ [V.str "aba", V.str "bab"] = L7w.map fun l => V.str (strC l) := by
  rw [t_e, t_a, t_b, t_ab, t_ba, t_aba, t_bab]
  rfl
theorem ok_2 : wordsOk [0] L2w = true := by decide +kernel
theorem ok_50 : wordsOk [0] L5w = true := by decide +kernel
theorem ok_51 : wordsOk [1] L5w = true := by decide +kernel
theorem ok_7 : wordsOk [0, 1] L7w = true := by decide +kernel
theorem sm_2 : ∀ l ∈ L2w, l.length ≤ 5 ∧ ∀ c ∈ l, c < 128 := by decide +kernel
theorem sm_5 : ∀ l ∈ L5w, l.length ≤ 5 ∧ ∀ c ∈ l, c < 128 := by decide +kernel
theorem sm_7 : ∀ l ∈ L7w, l.length ≤ 5 ∧ ∀ c ∈ l, c < 128 := by decide +kernel
theorem rep_flat {α : Type} (x : α) (n : Nat) : (List.replicate n [x]).flatten = List.replicate n x := by
  induction n with
  | zero => rfl
  | succ n ih =>
    rw [List.replicate_succ, List.flatten_cons, ih]
    rfl
theorem nI_rep (n d : Nat) : nI (List.replicate n d) = List.replicate n (V.int (d : Int)) := by
  unfold nI
  rw [List.map_replicate]
theorem ok4 : TabOk 4 [[0, 1, 2, 3], [1, 0, 3, 2], [2, 3, 0, 1], [3, 2, 1, 0]] := ⟨rfl, by decide⟩
theorem ok4' : TabOk 4 [[0, 1, 2, 3], [1, 1, 2, 2], [2, 1, 2, 1], [3, 1, 2, 0]] := ⟨rfl, by decide⟩
theorem ok5 : TabOk 5 [[0, 1, 2, 0, 0], [0, 1, 2, 1, 1], [0, 1, 2, 0, 1], [0, 1, 2, 3, 3], [0, 1, 2, 4, 4]] := ⟨rfl, by decide⟩
/-- [[d] * n] * n, d known -/
theorem two_reps {σ : L2.St} {H : Hp} {tn : TE} {n : Nat} {d : V} {Q : VK} (hn : 1 ≤ n) (hn2 : n ≤ 1000) (h : ∀ H1, Ev tn σ H1 (.int (n : Int)))
    (q : ∀ x2 x4 H', H x2 = none → H x4 = none → Ex H H' → H' x2 = some (.lst (List.replicate n d)) → H' x4 = some (.lst (List.replicate n (V.ref x2))) → Q (.ref x4) H') :
    [d].length ≤ sizeLine ∧ ∀ x1, H x1 = none → tn σ (upd H x1 (.lst [d])) fun y H2 => rRep (.ref x1) y H2 fun v H3 => [v].length ≤ sizeLine ∧ ∀ x3, H3 x3 = none → tn σ (upd H3 x3 (.lst [v])) fun y H4 => rRep (.ref x3) y H4 Q := by
  have s1 : ∀ v : V, [v].length * (n : Int).toNat ≤ sizeLine := fun v => by
    have : [v].length * (n : Int).toNat = n := by simp
    rw [this]
    exact sz_of (by omega)
  refine ⟨sz_of (by show 1 ≤ 100000; decide), fun x1 n1 => h _ _ (Ex.refl _) _ fun H2 e2 => ⟨x1, (n : Int), [d], rfl, rfl, e2 _ _ upd_same, by omega, by omega, s1 d, fun x2 n2 => ?_⟩⟩
  refine ⟨sz_of (by show 1 ≤ 100000; decide), fun x3 n3 => h _ _ (Ex.refl _) _ fun H4 e4 => ⟨x3, (n : Int), [.ref x2], rfl, rfl, e4 _ _ upd_same, by omega, by omega, s1 _, fun x4 n4 => ?_⟩⟩
  have a : Ex H H2 := (Ex.new n1).trans e2
  have b : Ex H (upd H2 x2 (.lst (List.replicate (n : Int).toNat [d]).flatten)) := a.trans (Ex.new n2)
  have c : Ex H H4 := (b.trans (Ex.new n3)).trans e4
  refine q x2 x4 _ (fresh_back a n2) (fresh_back c n4) (c.trans (Ex.new n4)) ?_ ?_
  · have z := Ex.new (o := .lst (List.replicate (n : Int).toNat [V.ref x2]).flatten) n4 _ _ (e4 _ _ (Ex.new (o := .lst [V.ref x2]) n3 _ _ (upd_same (H := H2) (a := x2) (o := .lst (List.replicate (n : Int).toNat [d]).flatten))))
    simp only [Int.toNat_natCast, rep_flat] at z ⊢
    exact z
  · rw [upd_same, Int.toNat_natCast, rep_flat]
section
variable {K : PySem.W.Frag} {σ : L2.St} {H : Hp} {D : Ends} {tz : TS}
theorem q_base2 {p c t : Nat} {i j a b : Nat} (ht : t < 800000) (ha : 0 < a ∧ a < 1000) (hb : 0 < b ∧ b < 1000) (pen : PenAt H p c t) (hσ : σ[0]? = some (some (.ref p))) (k : ∀ (w d : Nat) H3, w < a → d < b → PenGo p c (t + 2) H H3 → tz D ((σ.set i (some (.int (w : Int)))).set j (some (.int ((1 + d : Nat) : Int)))) H3) :
    tSeq (tAsg (tTup (tCons (tCall (sp_law_draw K) [] E0 (tCons (tVar 0) (tCons (tC (.int (a : Int))) tNil))) (tCons (tOp rAddK (tC (.int 1)) (tCall (sp_law_draw K) [] E0 (tCons (tVar 0) (tCons (tC (.int (b : Int))) tNil)))) tNil))) (gTup K 2 (gCons (gName i) (gCons (gName j) gNil)))) tz D σ H := by
  refine ⟨.ref p, hσ, p, c, t, a, rfl, ha.1, ha.2, by omega, pen, fun H1 w hw g1 => ?_⟩
  refine ⟨.ref p, hσ, p, c, t + 1, b, rfl, hb.1, hb.2, by omega, g1.2, fun H2 d hd g2 => ?_⟩
  refine ⟨1, (d : Int), rfl, rfl, sz_of (by show 2 ≤ 100000; decide), fun tp nt => ?_⟩
  refine ⟨tp, [.int (w : Int), .int (1 + (d : Int))], rfl, st_of upd_same, rfl, .int (w : Int), [.int (1 + (d : Int))], rfl, .int (1 + (d : Int)), [], rfl, rfl, ?_⟩
  have g := k w d (upd H2 tp (.tup [.int (w : Int), .int (1 + (d : Int))])) hw hd (((g1.trans g2).up (Nat.le_refl _)).ex (Ex.new nt))
  rw [show ((1 + d : Nat) : Int) = 1 + (d : Int) by omega] at g
  exact g
theorem q_span {tn : TE} {n i : Nat} (hn : n ≤ 1000) (h : Ev tn σ H (.int (n : Int))) (k : ∀ s H1, H s = none → Ex H H1 → H1 s = some (.lst (nI (List.range n))) → tz D (σ.set i (some (.ref s))) H1) : tSeq (tAsg (tLstRg (tRg1 tn)) (gName i)) tz D σ H :=
  h H (Ex.refl H) _ fun H1 e1 => ⟨(n : Int), rfl, RgOk.of_le (by decide) (by omega) (by decide) (by omega), fun s ns => k s _ (fresh_back e1 ns) (e1.trans (Ex.new ns)) (by rw [upd_same, rgV_nat])⟩
theorem r_as {te : TE} {Q : VK} (hD : D.rt = Q) (h : te σ H Q) : tRet te D σ H := by
  show te σ H D.rt
  rw [hD]
  exact h
theorem q_as {te : TE} {i : Nat} (h : te σ H fun v H1 => tz D (σ.set i (some v)) H1) : tSeq (tAsg te (gName i)) tz D σ H := h
theorem r_words {ta : TA} {Q : VK} (hD : D.rt = Q) (L : List (List Nat)) (ws : List Nat) (ha : ∀ Q' : List V → Hp → Prop, (∀ a b H2, Ex H H2 → SqL K H2 a (L.map fun l => V.str (strC l)) → SqL K H2 b (nI ws) → Q' [.ref a, .ref b] H2) → ta σ H Q')
    (s1 : L.length ≤ 7) (s2 : 1 ≤ ws.length) (s3 : ws.length ≤ 2) (s4 : ∀ l ∈ L, l.length ≤ 5 ∧ ∀ c ∈ l, c < 128) (ok : wordsOk ws L = true)
    (q : ∀ H' r as R, Ex H H' → newAll H r as → RowsAt H' r as R → TabOk L.length R → Q (.ref r) H') : tRet (tCall (sp_law_word_rows K) [] E0 ta) D σ H :=
  r_as hD (ha _ fun a b H2 e2 h1 h2 => ⟨a, b, L, ws, rfl, h1, h2, s1, s2, s3, s4, ok, fun H' r as R e nw hr hok => q H' r as R (e2.trans e) (nw.back e2) hr hok⟩)
theorem r_if {t : TT} {te tf : TE} {b : Bool} (h : EvT t σ H b) (h1 : b = true → ∀ H1, Ex H H1 → tRet te D σ H1) (h2 : b = false → ∀ H1, Ex H H1 → tRet tf D σ H1) : tRet (tIf t te tf) D σ H :=
  h H (Ex.refl H) _ fun H1 e1 => by
    cases b with
    | true => exact h1 rfl H1 e1
    | false => exact h2 rfl H1 e1
theorem lit4 (a b c d : Nat) : EvL (tLst (tCons (tC (.int (a : Int))) (tCons (tC (.int (b : Int))) (tCons (tC (.int (c : Int))) (tCons (tC (.int (d : Int))) tNil))))) σ H (nI [a, b, c, d]) := el_lst (v4 ev_c ev_c ev_c ev_c) (by show 4 ≤ 100000; decide)
theorem lit5 (a b c d e : Nat) : EvL (tLst (tCons (tC (.int (a : Int))) (tCons (tC (.int (b : Int))) (tCons (tC (.int (c : Int))) (tCons (tC (.int (d : Int))) (tCons (tC (.int (e : Int))) tNil)))))) σ H (nI [a, b, c, d, e]) := el_lst (v5 ev_c ev_c ev_c ev_c ev_c) (by show 5 ≤ 100000; decide)
theorem r_tworeps {p c t n : Nat} {tp tn : TE} {Q : VK} (hD : D.rt = Q) (hn : 0 < n) (hn2 : n < 1000) (ht : t < 1000000) (pen : PenAt H p c t) (h1 : ∀ H1, Ev tp σ H1 (.ref p)) (h : ∀ H1, Ev tn σ H1 (.int (n : Int)))
    (q : ∀ (d : Nat) x2 x4 H', d < n → H x2 = none → H x4 = none → PenGo p c (t + 1) H H' → H' x2 = some (.lst (List.replicate n (.int (d : Int)))) → H' x4 = some (.lst (List.replicate n (V.ref x2))) → Q (.ref x4) H') :
    tRet (tOp rRep (tLst (tCons (tOp rRep (tLst (tCons (tCall (sp_law_draw K) [] E0 (tCons tp (tCons tn tNil))) tNil)) tn) tNil)) tn) D σ H := by
  refine r_as hD ?_
  refine h1 H H (Ex.refl _) _ fun H1 e1 => h H1 H1 (Ex.refl _) _ fun H2 e2 => ⟨p, c, t, n, rfl, hn, hn2, ht, pen.ex (e1.trans e2), fun H3 d hd g => ?_⟩
  have g3 : PenGo p c (t + 1) H H3 := (PenGo.of pen (e1.trans e2)).trans g
  exact two_reps hn (by omega) h fun x2 x4 H4 n2 n4 e4 a b => q d x2 x4 H4 hd (free_pen g3 pen n2) (free_pen g3 pen n4) (g3.ex e4) a b
end
theorem r_law_base_rows {K : PySem.W.Frag} : ∀ vs H Q E, sp_law_base_rows K vs H Q E → t_law_base_rows K (EndsK Q) (L2.start n_law_base_rows vs) H := by
  rintro vs H Q E ⟨p, c, t, rfl, ht, pen, q⟩
  refine q_base2 (a := 17) (b := 5) ht ⟨by decide, by decide⟩ ⟨by decide, by decide⟩ pen rfl fun w d H3 hw hd g3 => ?_
  generalize hnn : 1 + d = n
  have n1 : 1 ≤ n := by omega
  have n5 : n ≤ 5 := by omega
  refine q_span (n := n) (by omega) (ev_var rfl) fun s H4 ns e4 hs => ?_
  have g4 : PenGo p c (t + 2) H H4 := g3.ex e4
  -- what is handed back
  have fin : ∀ {te : TE} {m : Nat} {R : List (List Nat)} {σ : L2.St} {H5 : Hp} {D : Ends}, D.rt = Q → EvW te σ H5 R → TabOk m R → 1 ≤ m → m ≤ 7 → PenGo p c (t + 100) H H5 → tRet te D σ H5 := fun {te m R σ H5 D} hD hte ok m1 m7 g5 =>
    hte H5 (Ex.refl _) _ fun r as H6 nw e6 hr => by
      rw [hD]
      exact q H6 r as R m m1 m7 (nw.pen g5 pen) hr ok (g5.ex e6)
  have t2 : ∀ {σ : L2.St} {H5 : Hp}, Ev (tVar 1) [some (.ref p), some (.int (w : Int)), some (.int (n : Int)), some (.ref s), none, none, none, none] H5 (.int (w : Int)) := ev_var rfl
  have gen : ∀ {te : TE} {f : Nat → Nat → Nat} {H5 : Hp} {D : Ends}, D.rt = Q → Ex H4 H5 → (∀ a b, a < n → b < n → f a b < n) → (∀ (a b : Nat) H6, Ex H5 H6 → a < n → b < n → Ev te [some (.ref p), some (.int (w : Int)), some (.int (n : Int)), some (.ref s), none, none, some (.int (a : Int)), some (.int (b : Int))] H6 (.int ((f a b : Nat) : Int))) →
      tRet (tLc (iList K (tVar 3)) (gName 6) tYes (tLc (iList K (tVar 3)) (gName 7) tYes te [7]) [6]) D [some (.ref p), some (.int (w : Int)), some (.int (n : Int)), some (.ref s), none, none, none, none] H5 := fun {te f H5 D} hD e5 hf he =>
    fin hD (ew_gen (by omega) (ev_var rfl) (e5 _ _ hs) (fun _ => rfl) (fun _ _ => rfl) (fun _ _ => ev_var rfl) he) (genR_ok hf) n1 (by omega) ((g4.ex e5).up (by omega))
  refine q_when (et_ltn 2 (ev_var rfl)) (fun hb H5 e5 => ?_) (fun hb H5 e5 => ?_)
  · refine r_as rfl (q_drawRows (n := n) (t := t + 2) n1 (by omega) (by omega) (g4.2.ex e5) (ev_var rfl) (e5 _ _ hs) (fun _ => rfl) (fun _ _ => rfl) (fun _ _ => ev_var rfl) (fun _ _ _ => ev_var rfl) (fun _ _ _ => ev_var rfl) fun r as R H6 nw hr ok g6 => ?_)
    exact q H6 r as R n n1 (by omega) (nw.pen (g4.ex e5) pen) hr ok (((g4.ex e5).trans g6).up (by omega))
  refine q_when (et_eqn 2 (ev_var rfl)) (fun hb H6 e6 => ?_) (fun hb H6 e6 => ?_)
  · have e56 := e5.trans e6
    refine q_as (q_drawRows (n := n) (t := t + 2) n1 (by omega) (by omega) (g4.2.ex e56) (ev_var rfl) (e56 _ _ hs) (fun _ => rfl) (fun _ _ => rfl) (fun _ _ => ev_var rfl) (fun _ _ _ => ev_var rfl) (fun _ _ _ => ev_var rfl) fun r as R H7 nw hr ok g7 => ?_)
    have g47 : PenGo p c (t + 52) H H7 := ((g4.ex e56).trans g7).up (by omega)
    have hs7 := g7.lst (g4.2.ex e56) (e56 _ _ hs)
    refine fin rfl (R := genR n fun a b => opOf R (min a b) (max a b)) (ew_gen (by omega) (ev_var rfl) hs7 (fun _ => rfl) (fun _ _ => rfl) (fun _ _ => ev_var rfl) fun a b H8 e8 ha hb => ?_) (genR_ok fun a b ha hb => ok.lt (by omega) (by omega)) n1 (by omega) (g47.up (by omega))
    refine ev_cell (hr.ex e8) ok (by omega) (by omega) (ev_var rfl) (ev_is (ev_min2 (ev_int1 (ev_var rfl)) (ev_int1 (ev_var rfl))) ?_) (ev_is (ev_max2 (ev_int1 (ev_var rfl)) (ev_int1 (ev_var rfl))) ?_)
    · congr 1
      split <;> omega
    · congr 1
      split <;> omega
  refine q_when (et_eqn 3 (ev_var rfl)) (fun hb H7 e7 => ?_) (fun hb H7 e7 => ?_)
  · refine gen rfl (f := fun a b => (a + b) % n) ((e5.trans e6).trans e7) (fun a b _ _ => Nat.mod_lt _ n1) fun a b H8 e8 ha hb => ev_is (ev_mod (ev_int1 (ev_add (ev_var rfl) (ev_var rfl))) (ev_var rfl) (by omega)) ?_
    congr 1
  refine q_when (et_eqn 4 (ev_var rfl)) (fun hb H8 e8 => ?_) (fun hb H8 e8 => ?_)
  · refine gen rfl (f := fun a b => min a b) (((e5.trans e6).trans e7).trans e8) (fun a b _ _ => by omega) fun a b H9 e9 ha hb => ev_is (ev_min2 (ev_int1 (ev_var rfl)) (ev_int1 (ev_var rfl))) ?_
    congr 1
    split <;> omega
  have e58 := ((e5.trans e6).trans e7).trans e8
  refine q_when (et_eqn 5 (ev_var rfl)) (fun hb H9 e9 => ?_) (fun hb H9 e9 => ?_)
  · refine gen rfl (f := fun a b => min (a + b) (n - 1)) (e58.trans e9) (fun a b _ _ => by omega) fun a b H10 e10 ha hb => ev_is (ev_min2 (ev_int1 (ev_add (ev_var rfl) (ev_var rfl))) (ev_sub (ev_var rfl) ev_c)) ?_
    congr 1
    split <;> omega
  have e59 := e58.trans e9
  refine q_when (et_ltn 8 (ev_var rfl)) (fun hb H10 e10 => ?_) (fun hb H10 e10 => ?_)
  · refine gen rfl (f := fun a b => if w = 6 then a else b) (e59.trans e10) (fun a b _ _ => by split <;> omega) fun a b H11 e11 ha hb => ev_ifT (et_eqn 6 (ev_var rfl)) (fun h => ?_) (fun h => ?_)
    · rw [if_pos (of_decide_eq_true h)]
      exact ev_var rfl
    · rw [if_neg (of_decide_eq_false h)]
      exact ev_var rfl
  have hw8 := of_decide_eq_false hb
  have e510 := e59.trans e10
  refine q_when (et_eqn 8 (ev_var rfl)) (fun hb H11 e11 => ?_) (fun hb H11 e11 => ?_)
  · have e511 := e510.trans e11
    have g11 := g4.ex e511
    exact r_tworeps (t := t + 2) rfl n1 (by omega) (by omega) g11.2 (fun _ => ev_var rfl) (fun _ => ev_var rfl) fun d2 x2 x4 H13 hd2 n2 n4 g13 h2 h4 => q H13 x4 (List.replicate n x2) (List.replicate n (List.replicate n d2)) n n1 (by omega) ⟨free_pen g11 pen n4, fun a ha => by rw [(List.mem_replicate.mp ha).2]; exact free_pen g11 pen n2⟩
      ⟨by rw [List.map_replicate]; exact h4, by rw [List.length_replicate, List.length_replicate], fun i a x ha hx => by
        rw [(List.mem_replicate.mp (List.mem_of_getElem? ha)).2, (List.mem_replicate.mp (List.mem_of_getElem? hx)).2, nI_rep]
        exact h2⟩ ⟨List.length_replicate, fun r hr => by
        rw [(List.mem_replicate.mp hr).2]
        exact ⟨List.length_replicate, fun x hx => by rw [(List.mem_replicate.mp hx).2]; exact hd2⟩⟩ ((g11.trans g13).up (by omega))
  have e511 := e510.trans e11
  refine q_when (et_eqn 9 (ev_var rfl)) (fun hb H12 e12 => ?_) (fun hb H12 e12 => ?_)
  · exact fin rfl (ew_lst (eaw_cons (lit4 0 1 2 3) (eaw_cons (lit4 1 0 3 2) (eaw_cons (lit4 2 3 0 1) (eaw_cons (lit4 3 2 1 0) eaw_nil)))) (by show 4 ≤ 1000; decide)) ok4 (by decide) (by decide) ((g4.ex (e511.trans e12)).up (by omega))
  refine q_when (et_eqn 10 (ev_var rfl)) (fun hb H13 e13 => ?_) (fun hb H13 e13 => ?_)
  · refine fin rfl (ew_genR (n := 4) (f := fun a b => a / 2 * 2 + b % 2) (by decide) (ea_cons ev_c ea_nil) (fun _ => rfl) (fun _ _ => rfl) (fun _ _ => ea_cons ev_c ea_nil) fun a b H14 e14 ha hb => ?_) (genR_ok fun a b ha hb => by omega) (by decide) (by decide) ((g4.ex ((e511.trans e12).trans e13)).up (by omega))
    exact ev_is (ev_add (ev_mul (ev_div (ev_var rfl) ev_c (div_ok (by decide) (by decide) _)) ev_c (.inr ⟨by decide, by decide⟩)) (ev_mod (ev_int1 (ev_var rfl)) ev_c (by decide))) (by congr 1)
  have e513 := (e511.trans e12).trans e13
  refine q_when (et_eqn 11 (ev_var rfl)) (fun hb H14 e14 => ?_) (fun hb H14 e14 => ?_)
  · exact fin rfl (ew_lst (eaw_cons (lit4 0 1 2 3) (eaw_cons (lit4 1 1 2 2) (eaw_cons (lit4 2 1 2 1) (eaw_cons (lit4 3 1 2 0) eaw_nil)))) (by show 4 ≤ 1000; decide)) ok4' (by decide) (by decide) ((g4.ex (e513.trans e14)).up (by omega))
  have e514 := e513.trans e14
  have hw12 : 12 ≤ w := by
    have a1 := of_decide_eq_false ‹decide (w = 8) = false›
    have a2 := of_decide_eq_false ‹decide (w = 9) = false›
    have a3 := of_decide_eq_false ‹decide (w = 10) = false›
    have a4 := of_decide_eq_false ‹decide (w = 11) = false›
    omega
  refine q_when (et_eqn 16 (ev_var rfl)) (fun hb H15 e15 => ?_) (fun hb H15 e15 => ?_)
  · exact fin rfl (ew_lst (eaw_cons (lit5 0 1 2 0 0) (eaw_cons (lit5 0 1 2 1 1) (eaw_cons (lit5 0 1 2 0 1) (eaw_cons (lit5 0 1 2 3 3) (eaw_cons (lit5 0 1 2 4 4) eaw_nil))))) (by show 5 ≤ 1000; decide)) ok5 (by decide) (by decide) ((g4.ex (e514.trans e15)).up (by omega))
  refine q_asgL (el_lst (ea_cons ev_c (ea_cons ev_c (ea_cons ev_c (ea_cons ev_c (ea_cons ev_c ea_nil))))) (by show 5 ≤ 100000; decide)) fun wo H16 nwo e16 hwo => ?_
  have e516 := (e514.trans e15).trans e16
  have g16 : PenGo p c (t + 100) H H16 := (g4.ex e516).up (by omega)
  have done : ∀ {L : List (List Nat)} {H17 H18 : Hp} {r : Addr} {as : List Addr} {R : List (List Nat)}, 1 ≤ L.length → L.length ≤ 7 → Ex H16 H17 → Ex H17 H18 → newAll H17 r as → RowsAt H18 r as R → TabOk L.length R → Q (.ref r) H18 := fun {L H17 H18 r as R} l1 l7 e17 e18 nw hr ok =>
    q H18 r as R L.length l1 l7 (nw.pen (g16.ex e17) pen) hr ok ((g16.ex e17).ex e18)
  refine q_when (et_ltn 14 (ev_var rfl)) (fun hb H17 e17 => ?_) (fun hb H17 e17 => ?_)
  · have hw14 := of_decide_eq_true hb
    refine r_words rfl L5w [w - 12] (fun Q' q' => ?_) (by decide) (Nat.le_refl 1) (show 1 ≤ 2 by decide) sm_5 ?_ fun H18 r as R e18 nw hr ok => done (L := L5w) (by decide) (by decide) e17 e18 nw hr ok
    · refine ⟨.ref wo, rfl, ?_⟩
      refine (el_lst (ea_cons (ev_is (w := .int ((w - 12 : Nat) : Int)) (ev_sub (ev_var rfl) ev_c) (by congr 1; omega)) ea_nil) (by show 1 ≤ 100000; decide) : EvL _ _ H17 _) H17 (Ex.refl _) _ fun x H18 nx e18 hx => q' wo x H18 e18 (words_at l5_is (e18 _ _ (e17 _ _ hwo))) (sq_of hx)
    · have : w = 12 ∨ w = 13 := by omega
      rcases this with rfl | rfl
      · exact ok_50
      · exact ok_51
  · refine r_if (et_eqn 14 (ev_var rfl)) (fun hb2 H18 e18 => ?_) (fun hb2 H18 e18 => ?_)
    · refine r_words rfl L7w [0, 1] (fun Q' q' => ?_) (by decide) (by decide) (by decide) sm_7 ok_7 fun H19 r as R e19 nw hr ok => done (L := L7w) (by decide) (by decide) (e17.trans e18) e19 nw hr ok
      refine (el_cat ((e17.trans e18) _ _ hwo) (ev_var rfl) (el_lst (ea_cons ev_c (ea_cons ev_c ea_nil)) (by show 2 ≤ 100000; decide)) (by show 5 + 2 ≤ 100000; decide) : EvL _ _ H18 _) H18 (Ex.refl _) _ fun x H19 nx e19 hx => ?_
      exact (el_lst (v2 (x := 0) (y := 1) ev_c ev_c) (by show 2 ≤ 100000; decide) : EvL _ _ H19 _) H19 (Ex.refl _) _ fun y H20 ny e20 hy => q' x y H20 (e19.trans e20) (words_at l7_is (e20 _ _ hx)) (sq_of hy)
    · refine r_words rfl L2w [0] (fun Q' q' => ?_) (by decide) (by decide) (by decide) sm_2 ok_2 fun H19 r as R e19 nw hr ok => done (L := L2w) (by decide) (by decide) (e17.trans e18) e19 nw hr ok
      refine (el_lst (ea_cons ev_c (ea_cons ev_c ea_nil)) (by show 2 ≤ 100000; decide) : EvL _ _ H18 _) H18 (Ex.refl _) _ fun x H19 nx e19 hx => ?_
      exact (el_lst (v1 (x := 0) ev_c) (by show 1 ≤ 100000; decide) : EvL _ _ H19 _) H19 (Ex.refl _) _ fun y H20 ny e20 hy => q' x y H20 (e19.trans e20) (words_at l2_is (e20 _ _ hx)) (sq_of hy)
end K28
end
section
namespace K28
open PySem PySem.Spec L2 PyProof.Rows Evl
theorem nI_set (l : List Nat) (b c : Nat) : nI (l.set b c) = (nI l).set b (.int (c : Int)) := by
  unfold nI
  rw [List.map_set]
def zeroR (n : Nat) : List (List Nat) := List.replicate n (List.replicate n 0)
theorem zero_ok (n : Nat) (h : 1 ≤ n) : TabOk n (zeroR n) := ⟨List.length_replicate, fun r hr => by
  rw [(List.mem_replicate.mp hr).2]
  exact ⟨List.length_replicate, fun x hx => by rw [(List.mem_replicate.mp hx).2]; exact h⟩⟩
theorem perm_at {n i : Nat} {l : List Nat} (h : l.Perm (List.range n)) (hi : i < n) : ∃ x, l[i]? = some x ∧ x < n := by
  have hl : i < l.length := by
    rw [h.length_eq, List.length_range]
    exact hi
  refine ⟨l[i], List.getElem?_eq_getElem hl, ?_⟩
  have := h.mem_iff.mp (List.getElem_mem hl)
  rwa [List.mem_range] at this
theorem r_law_twisted_rows {K : PySem.W.Frag} : ∀ vs H Q E, sp_law_twisted_rows K vs H Q E → t_law_twisted_rows K (EndsK Q) (L2.start n_law_twisted_rows vs) H := by
  rintro vs H Q E ⟨p, c, r, t, n, as, R, rfl, ht, hn1, hn7, hr, ok, pen, q⟩
  have len : ∀ (σ : L2.St) H1, Ex H H1 → σ[1]? = some (some (.ref r)) → Ev (tCB (rLenS K) (tCons (tVar 1) tNil)) σ H1 (.int (n : Int)) := fun σ H1 e hσ => ev_is (ev_lenL (ev_var hσ) (sq_of (hr.ex e).at_)) (by rw [List.length_map, hr.len, ok.len])
  refine q_as ?_
  refine ⟨.ref p, rfl, ?_⟩
  refine (len (L2.start n_law_twisted_rows [.ref p, .ref r]) H (Ex.refl H) rfl) H (Ex.refl H) _ fun H1 e1 => ⟨(n : Int), rfl, RgOk.of_le (by decide) (by omega) (by decide) (by omega), fun s ns => ?_⟩
  have es : Ex H (upd H1 s (.lst (rgV 0 (n : Int)))) := e1.trans (Ex.new ns)
  refine ⟨p, c, s, t, List.range n, rfl, by rw [upd_same, rgV_nat], by rw [List.length_range]; omega, by omega, pen.ex es, fun H2 o l perm no ho g2 => ?_⟩
  have g02 : PenGo p c (t + 10) H H2 := (PenGo.of pen es).trans g2
  have hr2 : RowsAt H2 r as R := hr.pen pen g02
  have ll : l.length = n := by rw [perm.length_eq, List.length_range]
  have len2 : ∀ (σ : L2.St) H3, Ex H2 H3 → σ[1]? = some (some (.ref r)) → Ev (tCB (rLenS K) (tCons (tVar 1) tNil)) σ H3 (.int (n : Int)) := fun σ H1 e hσ => ev_is (ev_lenL (ev_var hσ) (sq_of (hr2.ex e).at_)) (by rw [List.length_map, hr2.len, ok.len])
  have mk : EvR (tLc (iList K (tVar 2)) (gName 5) tYes (tLc (iList K (tVar 2)) (gName 6) tYes (tC (.int 0)) [6]) [5]) [some (.ref p), some (.ref r), some (.ref o), none, none, none, none] H2 ((zeroR n).map nI) := by
    refine er_lcL (a := o) (xs := nI l) (ev_var rfl) (sq_of ho) (by rw [nI_len]; omega) (by unfold zeroR; rw [nI_len, List.length_map, List.length_replicate, ll]) (fun _ => rfl) fun i v x H3 e3 hv hx => ?_
    obtain ⟨z, hz, rfl⟩ := map_at hx
    rw [(List.mem_replicate.mp (List.mem_of_getElem? hz)).2]
    refine el_map (a := o) (xs := nI l) (ev_var rfl) (sq_of (e3 _ _ ho)) (by rw [nI_len]; omega) (by rw [nI_len, nI_len, List.length_replicate, ll]) (fun _ => rfl) fun j v y H4 e4 hv hy => ?_
    obtain ⟨w, hw, rfl⟩ := nI_of hy
    rw [(List.mem_replicate.mp (List.mem_of_getElem? hw)).2]
    exact ev_c
  refine q_as (er_rows mk H2 (Ex.refl _) _ fun f as' H3 nw nd e3 hf => ?_)
  have ord : ∀ {σ : L2.St} {H4 : Hp} {te : TE} {i x : Nat}, Ex H2 H4 → σ[2]? = some (some (.ref o)) → l[i]? = some x → Ev te σ H4 (.int (i : Int)) → Ev (tOp (rIxL K) (tVar 2) te) σ H4 (.int (x : Int)) := fun {σ H4 te i x} e hσ hx hte => ev_ixL (ev_var hσ) hte (sq_of (e _ _ ho)) (nI_at hx)
  refine q_forR1 (ea_cons (len2 _ H3 e3 rfl) ea_nil) ⟨by omega, by omega⟩ (fun a σ' H' => Ex H2 H' ∧ ∃ R', RowsAt H' f as' R' ∧ TabOk n R' ∧ ∃ w4 w5 w6, σ' = [some (.ref p), some (.ref r), some (.ref o), some (.ref f), w4, w5, w6]) (fun H4 e4 => ⟨e3.trans e4, _, hf.ex e4, zero_ok n hn1, none, none, none, rfl⟩) (fun a σ' H' ha w => ?_) (fun σ' H' w => ?_)
  · obtain ⟨e4, R', hR', ok', w4, w5, w6, rfl⟩ := w
    have ha' : a < n := by omega
    refine s_forR1 (ea_cons (len2 _ H' e4 rfl) ea_nil) ⟨by omega, by omega⟩ (fun b σ' H' => Ex H2 H' ∧ ∃ R', RowsAt H' f as' R' ∧ TabOk n R' ∧ ∃ w4 w6, σ' = [some (.ref p), some (.ref r), some (.ref o), some (.ref f), w4, some (.int (a : Int)), w6]) (fun H5 e5 => ⟨e4.trans e5, _, hR'.ex e5, ok', w4, w6, rfl⟩) (fun b σ' H' hb w => ?_) (fun σ' H' w => ?_)
    · obtain ⟨e5, R', hR', ok', w4, w6, rfl⟩ := w
      have hb' : b < n := by omega
      obtain ⟨x, hx, xn⟩ := perm_at perm ha'
      obtain ⟨y, hy, yn⟩ := perm_at perm hb'
      obtain ⟨z, hz, zn⟩ := perm_at perm (ok.lt ha' hb')
      obtain ⟨ra, hra, _, hrow⟩ := hR'.ref ok' xn
      refine q_asg (ev_row hR' ok' (ev_var rfl) (ord e5 rfl hx (ev_var rfl)) hra) fun H6 e6 => ?_
      have e56 := e5.trans e6
      refine s_setL (l := ra) (xs := nI (R'.getD x [])) (j := y) (v := .int (z : Int)) (e6 _ _ hrow) (ord e56 rfl hz (ev_cell (hr2.ex e56) ok ha' hb' (ev_var rfl) (ev_var rfl) (ev_var rfl))) (ev_var rfl) (ord e56 rfl hy (ev_var rfl)) (by rw [nI_len, (ok'.row_at xn).2]; exact yn) fun H7 e7 => ?_
      rw [← nI_set]
      have rn : H2 ra = none := nw.2 ra (List.mem_of_getElem? hra)
      exact ⟨Ex.mut (e56.trans e7) rn, setE R' x y z, (hR'.ex (e6.trans e7)).set ok' nd xn hra, ok'.setE xn zn, _, _, rfl⟩
    · obtain ⟨e5, R', hR', ok', w4, w6, rfl⟩ := w
      exact ⟨e5, R', hR', ok', _, _, _, rfl⟩
  · obtain ⟨e4, R', hR', ok', w4, w5, w6, rfl⟩ := w
    refine s_ret (ev_var rfl) fun H5 e5 => ?_
    exact q H5 f as' R' (nw.pen g02 pen) nd (hR'.ex e5) ok' (g02.ex (e4.trans e5))
theorem r_law_rows_drawn {K : PySem.W.Frag} : ∀ vs H Q E, sp_law_rows_drawn K vs H Q E → t_law_rows_drawn K (EndsK Q) (L2.start n_law_rows_drawn vs) H := by
  rintro vs H Q E ⟨p, c, t, rfl, ht, pen, q⟩
  refine q_as ?_
  refine ⟨.ref p, rfl, .ref p, rfl, p, c, t, rfl, by omega, pen, fun H1 r0 as0 R0 n hn1 hn7 nw0 hr0 ok0 g1 => ?_⟩
  refine ⟨p, c, r0, t + 100, n, as0, R0, rfl, by omega, hn1, hn7, hr0, ok0, g1.2, fun H2 r as R nw nd hr ok g2 => ?_⟩
  have g12 := g1.trans g2
  have nw2 : newAll H r as := nw.pen g1 pen
  have len : ∀ {H3}, RowsAt H3 r as R → ∀ (w : Option V), Ev (tCB (rLenS K) (tCons (tVar 1) tNil)) [some (.ref p), some (.ref r), w] H3 (.int (n : Int)) := fun {H3} h w => ev_is (ev_lenL (ev_var rfl) (sq_of h.at_)) (by rw [List.length_map, h.len, ok.len])
  refine ⟨.ref p, rfl, p, c, t + 110, 4, rfl, by decide, by decide, by omega, g2.2, fun H3 d hd g3 => ?_⟩
  have hr3 := hr.pen g2.2 g3
  have g13 := g12.trans g3
  have drawn : ∀ {H4 : Hp} {t' : Nat} {w : Option V} {Q' : VK}, PenAt H4 p c t' → t' < 1000000 → RowsAt H4 r as R → (∀ H5 (d : Nat), d < n → PenGo p c (t' + 1) H4 H5 → RowsAt H5 r as R → Q' (.int (d : Int)) H5) →
      (tCall (sp_law_draw K) [] E0 (tCons (tVar 0) (tCons (tCB (rLenS K) (tCons (tVar 1) tNil)) tNil))) [some (.ref p), some (.ref r), w] H4 Q' := fun {H4 t' w Q'} pen4 ht4 hr4 q4 =>
    ⟨.ref p, rfl, (len hr4 w) H4 (Ex.refl _) _ fun H5 e5 => ⟨p, c, t', n, rfl, hn1, by omega, ht4, pen4.ex e5, fun H6 d6 hd6 g6 => q4 H6 d6 hd6 ((PenGo.of pen4 e5).trans g6) ((hr4.ex e5).pen (pen4.ex e5) g6)⟩⟩
  refine ⟨rfl, _, rfl, ?_⟩
  show (if decide (V.int (d : Int) = V.int 0) = true then _ else _)
  split
  · refine q_as ?_
    refine ⟨.ref r, rfl, ?_⟩
    refine drawn g3.2 (by omega) hr3 fun H4 a ha g4 hr4 => ?_
    obtain ⟨ra, hra, hra2, hrow⟩ := hr4.ref ok ha
    refine ⟨r, as.map V.ref, (a : Int), .ref ra, rfl, rfl, sq_of hr4.at_, atI_nat hra2, ?_⟩
    refine drawn g4.2 (by omega) hr4 fun H5 v hv g5 hr5 => ?_
    refine ⟨.ref ra, rfl, ?_⟩
    refine drawn g5.2 (by omega) hr5 fun H6 b hb g6 hr6 => ?_
    have hrow6 := hr6.row a ra _ hra (ok.row_at ha).1
    refine ⟨ra, nI (R.getD a []), (b : Int), b, rfl, rfl, hrow6, ixN_nat (by rw [nI_len, (ok.row_at ha).2]; exact hb), ?_⟩
    refine s_ret (ev_var rfl) fun H7 e7 => ?_
    have g := hr6.set (b := b) (c := v) ok nd ha hra
    rw [nI_set] at g
    exact q H7 r as (setE R a b v) n hn1 hn7 nw2 nd (g.ex e7) (ok.setE ha hv) (((PenGo.new (((g13.trans g4).trans g5).trans g6) pen (nw2.2 ra (List.mem_of_getElem? hra))).ex e7).up (by omega))
  · exact s_ret (ev_var rfl) fun H7 e7 => q H7 r as R n hn1 hn7 nw2 nd (hr3.ex e7) ok ((g13.ex e7).up (by omega))
end K28
end
section
namespace K28
open PySem PySem.Spec L2 PyProof.Rows
def HasD (K : PySem.W.Frag) (d : He.DefD) : Prop := ∃ fd, FunD K d.name d.qual d.params d.body d.scope (d.dvs K) (d.kws K) (He.fAd K d.at_) fd
theorem ok_put_row {P : Program} {w : World} {K : PySem.W.Frag} {mg : Str → Option Value} {base : Heap} (T : Txt P K mg) (F : HasD K d_put_row) : Good P w K mg base 2 (He.ga K "put_row") ["rows", "values"] (sp_put_row K) := by
  obtain ⟨fd, F⟩ := F
  have F : FunD K "put_row" "put_row" (defArgs s_put_row) (defBody s_put_row) (defScope s_put_row) [] [] (He.ga K "put_row") fd := F
  exact ⟨⟨fd, F.ok sc_put_row (fun vs H Q E h => by obtain ⟨_, _, _, _, _, _, e, _⟩ := h; rw [e]; rfl) fun cdv A outer s H vs Q E hr h => ⟨t_put_row K, w_put_row T hr, r_put_row vs H Q E h⟩, F.bindsN fun _ _ _ _ _ _ us hl => match us, hl with | [_, _], _ => rfl⟩, F.kp⟩
theorem ok_equations_of {P : Program} {w : World} {K : PySem.W.Frag} {mg : Str → Option Value} {base : Heap} (T : Txt P K mg) (F : HasD K d_equations_of) : Good P w K mg base 2 (He.ga K "equations_of") ["rule", "x", "y", "z"] (sp_equations_of K) := by
  obtain ⟨fd, F⟩ := F
  have F : FunD K "equations_of" "equations_of" (defArgs s_equations_of) (defBody s_equations_of) (defScope s_equations_of) [] [] (He.ga K "equations_of") fd := F
  exact ⟨⟨fd, F.ok sc_equations_of (fun vs H Q E h => by obtain ⟨_, _, _, _, e, _⟩ := h; rw [e]; rfl) fun cdv A outer s H vs Q E hr h => ⟨t_equations_of K, w_equations_of T hr, r_equations_of T vs H Q E h⟩, F.bindsN fun _ _ _ _ _ _ us hl => match us, hl with | [_, _, _, _], _ => rfl⟩, F.kp⟩
theorem ok_holds_for {P : Program} {w : World} {K : PySem.W.Frag} {mg : Str → Option Value} {base : Heap} (T : Txt P K mg) (F : HasD K d_holds_for)
    (G_equations_of : Good P w K mg base 2 (He.ga K "equations_of") ["rule", "x", "y", "z"] (sp_equations_of K))
    (G_put_row : Good P w K mg base 2 (He.ga K "put_row") ["rows", "values"] (sp_put_row K)) : Good P w K mg base 4 (He.ga K "holds_for") ["rows", "rule", "x", "y", "z"] (sp_holds_for K) := by
  obtain ⟨fd, F⟩ := F
  have F : FunD K "holds_for" "holds_for" (defArgs s_holds_for) (defBody s_holds_for) (defScope s_holds_for) [] [] (He.ga K "holds_for") fd := F
  exact ⟨⟨fd, F.ok sc_holds_for (fun vs H Q E h => by obtain ⟨_, _, _, _, _, _, _, _, e, _⟩ := h; rw [e]; rfl) fun cdv A outer s H vs Q E hr h => ⟨t_holds_for K, w_holds_for T G_equations_of G_put_row hr, r_holds_for T vs H Q E h⟩, F.bindsN fun _ _ _ _ _ _ us hl => match us, hl with | [_, _, _, _, _], _ => rfl⟩, F.kp⟩
theorem ok_Tinit2 {P : Program} {w : World} {K : PySem.W.Frag} {mg : Str → Option Value} {base : Heap} (T : Txt P K mg) (F : HasD K d_Tinit)
    (X_BadSize : Good P w K mg base 2 (He.ma K (He.ga K "BadSize") "__init__") ["self", "size"] (sp_BadSize K)) : Good P w K mg base 6 (mTab K "__init__") ["self", "size", "rows"] (sp_Tinit K) := by
  obtain ⟨fd, F⟩ := F
  have F : FunD K "__init__" "Table.__init__" (defArgs s_Tinit) (defBody s_Tinit) (defScope s_Tinit) [.non] [] (mTab K "__init__") fd := F
  obtain ⟨ds, hv, hb⟩ := F.binds1 (ps := ["self", "size", "rows"]) 3 1 (by simp) rfl fun T kV doc pm an cdv ct us its h1 h2 => match us, its, h1, h2 with | [_, _, _], [_], _, _ => ⟨_, rfl, rfl⟩
  cases hv
  exact ⟨⟨fd, F.ok sc_Tinit (fun vs H Q E h => by obtain ⟨_, _, _, _, e, _⟩ := h; rw [e]; rfl) fun cdv A outer s H vs Q E hr h => ⟨t_Tinit K E, w_Tinit T X_BadSize hr, r_Tinit T vs H Q E h⟩, hb⟩, F.kp⟩
theorem ok_Tinit1 {P : Program} {w : World} {K : PySem.W.Frag} {mg : Str → Option Value} {base : Heap} (T : Txt P K mg) (F : HasD K d_Tinit)
    (X_BadSize : Good P w K mg base 2 (He.ma K (He.ga K "BadSize") "__init__") ["self", "size"] (sp_BadSize K)) : Good1 P w K mg base 6 (mTab K "__init__") ["self", "size", "rows"] (sp_Tinit K) := by
  obtain ⟨fd, F⟩ := F
  have F : FunD K "__init__" "Table.__init__" (defArgs s_Tinit) (defBody s_Tinit) (defScope s_Tinit) [.non] [] (mTab K "__init__") fd := F
  obtain ⟨ds, hv, hb⟩ := F.binds1 (ps := ["self", "size", "rows"]) 2 0 (by simp) rfl fun T kV doc pm an cdv ct us its h1 h2 => match us, its, h1, h2 with | [_, _], [_], _, _ => ⟨_, rfl, rfl⟩
  exact ⟨⟨fd, ds, F.ok sc_Tinit (fun vs H Q E h => by obtain ⟨_, _, _, _, e, _⟩ := h; rw [e]; rfl) fun cdv A outer s H vs Q E hr h => ⟨t_Tinit K E, w_Tinit T X_BadSize hr, r_Tinit T vs H Q E h⟩, hb, hv⟩⟩
theorem ok_Tcheck {P : Program} {w : World} {K : PySem.W.Frag} {mg : Str → Option Value} {base : Heap} (T : Txt P K mg) (F : HasD K d_Tcheck)
    (X_BadValue : Good P w K mg base 2 (He.ma K (He.ga K "BadValue") "__init__") ["self", "value"] (sp_BadValue K)) : Good P w K mg base 6 (mTab K "check") ["self", "values"] (sp_Tcheck K) := by
  obtain ⟨fd, F⟩ := F
  have F : FunD K "check" "Table.check" (defArgs s_Tcheck) (defBody s_Tcheck) (defScope s_Tcheck) [] [] (mTab K "check") fd := F
  exact ⟨⟨fd, F.ok sc_Tcheck (fun vs H Q E h => by obtain ⟨_, _, _, _, _, _, e, _⟩ := h; rw [e]; rfl) fun cdv A outer s H vs Q E hr h => ⟨t_Tcheck K E, w_Tcheck T X_BadValue hr, r_Tcheck T vs H Q E h⟩, F.bindsN fun _ _ _ _ _ _ us hl => match us, hl with | [_, _], _ => rfl⟩, F.kp⟩
theorem ok_Tgetitem {P : Program} {w : World} {K : PySem.W.Frag} {mg : Str → Option Value} {base : Heap} (T : Txt P K mg) (F : HasD K d_Tgetitem)
    (G_Tcheck : Good P w K mg base 6 (mTab K "check") ["self", "values"] (sp_Tcheck K)) : Good P w K mg base 9 (mTab K "__getitem__") ["self", "at"] (sp_Tgetitem K) := by
  obtain ⟨fd, F⟩ := F
  have F : FunD K "__getitem__" "Table.__getitem__" (defArgs s_Tgetitem) (defBody s_Tgetitem) (defScope s_Tgetitem) [] [] (mTab K "__getitem__") fd := F
  exact ⟨⟨fd, F.ok sc_Tgetitem (fun vs H Q E h => by obtain ⟨_, _, _, _, _, _, _, _, e, _⟩ := h; rw [e]; rfl) fun cdv A outer s H vs Q E hr h => ⟨t_Tgetitem K E, w_Tgetitem T G_Tcheck hr, r_Tgetitem T vs H Q E h⟩, F.bindsN fun _ _ _ _ _ _ us hl => match us, hl with | [_, _], _ => rfl⟩, F.kp⟩
theorem ok_Tsetitem {P : Program} {w : World} {K : PySem.W.Frag} {mg : Str → Option Value} {base : Heap} (T : Txt P K mg) (F : HasD K d_Tsetitem)
    (G_Tcheck : Good P w K mg base 6 (mTab K "check") ["self", "values"] (sp_Tcheck K)) : Good P w K mg base 9 (mTab K "__setitem__") ["self", "at", "worth"] (sp_Tsetitem K) := by
  obtain ⟨fd, F⟩ := F
  have F : FunD K "__setitem__" "Table.__setitem__" (defArgs s_Tsetitem) (defBody s_Tsetitem) (defScope s_Tsetitem) [] [] (mTab K "__setitem__") fd := F
  exact ⟨⟨fd, F.ok sc_Tsetitem (fun vs H Q E h => by obtain ⟨_, _, _, _, _, _, _, _, _, _, e, _⟩ := h; rw [e]; rfl) fun cdv A outer s H vs Q E hr h => ⟨t_Tsetitem K E, w_Tsetitem T G_Tcheck hr, r_Tsetitem T vs H Q E h⟩, F.bindsN fun _ _ _ _ _ _ us hl => match us, hl with | [_, _, _], _ => rfl⟩, F.kp⟩
theorem ok_Tstr {P : Program} {w : World} {K : PySem.W.Frag} {mg : Str → Option Value} {base : Heap} (T : Txt P K mg) (F : HasD K d_Tstr) : Good P w K mg base 2 (mTab K "__str__") ["self"] (sp_Tstr K) := by
  obtain ⟨fd, F⟩ := F
  have F : FunD K "__str__" "Table.__str__" (defArgs s_Tstr) (defBody s_Tstr) (defScope s_Tstr) [] [] (mTab K "__str__") fd := F
  exact ⟨⟨fd, F.ok sc_Tstr (fun vs H Q E h => by obtain ⟨_, _, _, _, _, e, _⟩ := h; rw [e]; rfl) fun cdv A outer s H vs Q E hr h => ⟨t_Tstr K, w_Tstr T hr, r_Tstr T vs H Q E h⟩, F.bindsN fun _ _ _ _ _ _ us hl => match us, hl with | [_], _ => rfl⟩, F.kp⟩
theorem ok_Tbreaks {P : Program} {w : World} {K : PySem.W.Frag} {mg : Str → Option Value} {base : Heap} (T : Txt P K mg) (F : HasD K d_Tbreaks)
    (G_holds_for : Good P w K mg base 4 (He.ga K "holds_for") ["rows", "rule", "x", "y", "z"] (sp_holds_for K)) : Good P w K mg base 6 (mTab K "breaks") ["self", "rule"] (sp_Tbreaks K) := by
  obtain ⟨fd, F⟩ := F
  have F : FunD K "breaks" "Table.breaks" (defArgs s_Tbreaks) (defBody s_Tbreaks) (defScope s_Tbreaks) [] [] (mTab K "breaks") fd := F
  exact ⟨⟨fd, F.ok sc_Tbreaks (fun vs H Q E h => by obtain ⟨_, _, _, _, _, _, e, _⟩ := h; rw [e]; rfl) fun cdv A outer s H vs Q E hr h => ⟨t_Tbreaks K, w_Tbreaks T G_holds_for hr, r_Tbreaks T vs H Q E h⟩, F.bindsN fun _ _ _ _ _ _ us hl => match us, hl with | [_, _], _ => rfl⟩, F.kp⟩
theorem ok_Trules {P : Program} {w : World} {K : PySem.W.Frag} {mg : Str → Option Value} {base : Heap} (T : Txt P K mg) (F : HasD K d_Trules)
    (G_Tbreaks : Good P w K mg base 6 (mTab K "breaks") ["self", "rule"] (sp_Tbreaks K)) : Good P w K mg base 8 (mTab K "rules") ["self"] (sp_Trules K) := by
  obtain ⟨fd, F⟩ := F
  have F : FunD K "rules" "Table.rules" (defArgs s_Trules) (defBody s_Trules) (defScope s_Trules) [] [] (mTab K "rules") fd := F
  exact ⟨⟨fd, F.ok sc_Trules (fun vs H Q E h => by obtain ⟨_, _, _, _, _, e, _⟩ := h; rw [e]; rfl) fun cdv A outer s H vs Q E hr h => ⟨t_Trules K, w_Trules T G_Tbreaks hr, r_Trules T vs H Q E h⟩, F.bindsN fun _ _ _ _ _ _ us hl => match us, hl with | [_], _ => rfl⟩, F.kp⟩
theorem ok_Tgenerated {P : Program} {w : World} {K : PySem.W.Frag} {mg : Str → Option Value} {base : Heap} (T : Txt P K mg) (F : HasD K d_Tgenerated)
    (G_Tcheck : Good P w K mg base 6 (mTab K "check") ["self", "values"] (sp_Tcheck K)) : Good P w K mg base 9 (mTab K "generated") ["self", "values"] (sp_Tgenerated K) := by
  obtain ⟨fd, F⟩ := F
  have F : FunD K "generated" "Table.generated" (defArgs s_Tgenerated) (defBody s_Tgenerated) (defScope s_Tgenerated) [] [] (mTab K "generated") fd := F
  exact ⟨⟨fd, F.ok sc_Tgenerated (fun vs H Q E h => by obtain ⟨_, _, _, _, _, _, _, e, _⟩ := h; rw [e]; rfl) fun cdv A outer s H vs Q E hr h => ⟨t_Tgenerated K E, w_Tgenerated T G_Tcheck hr, r_Tgenerated T vs H Q E h⟩, F.bindsN fun _ _ _ _ _ _ us hl => match us, hl with | [_, _], _ => rfl⟩, F.kp⟩
theorem ok_Tpart {P : Program} {w : World} {K : PySem.W.Frag} {mg : Str → Option Value} {base : Heap} (T : Txt P K mg) (F : HasD K d_Tpart)
    (G_Tcheck : Good P w K mg base 6 (mTab K "check") ["self", "values"] (sp_Tcheck K))
    (X_BadSize : Good P w K mg base 2 (He.ma K (He.ga K "BadSize") "__init__") ["self", "size"] (sp_BadSize K))
    (X_NotClosed : Good P w K mg base 2 (He.ma K (He.ga K "NotClosed") "__init__") ["self", "left", "right"] (sp_NotClosed K))
    (G_Tinit2 : Good P w K mg base 6 (mTab K "__init__") ["self", "size", "rows"] (sp_Tinit K)) : Good P w K mg base 12 (mTab K "part") ["self", "values"] (sp_Tpart K) := by
  obtain ⟨fd, F⟩ := F
  have F : FunD K "part" "Table.part" (defArgs s_Tpart) (defBody s_Tpart) (defScope s_Tpart) [] [] (mTab K "part") fd := F
  exact ⟨⟨fd, F.ok sc_Tpart (fun vs H Q E h => by obtain ⟨_, _, _, _, _, _, _, e, _⟩ := h; rw [e]; rfl) fun cdv A outer s H vs Q E hr h => ⟨t_Tpart K E, w_Tpart T G_Tcheck X_BadSize X_NotClosed G_Tinit2 hr, r_Tpart T vs H Q E h⟩, F.bindsN fun _ _ _ _ _ _ us hl => match us, hl with | [_, _], _ => rfl⟩, F.kp⟩
theorem ok_law_pen {P : Program} {w : World} {K : PySem.W.Frag} {mg : Str → Option Value} {base : Heap} (T : Txt P K mg) (F : HasD K d_law_pen) : Good P w K mg base 2 (He.ga K "_law_pen") ["_law_script"] (sp_law_pen K) := by
  obtain ⟨fd, F⟩ := F
  have F : FunD K "_law_pen" "_law_pen" (defArgs s_law_pen) (defBody s_law_pen) (defScope s_law_pen) [] [] (He.ga K "_law_pen") fd := F
  exact ⟨⟨fd, F.ok sc_law_pen (fun vs H Q E h => by obtain ⟨_, _, e, _⟩ := h; rw [e]; rfl) fun cdv A outer s H vs Q E hr h => ⟨t_law_pen K, w_law_pen T hr, r_law_pen vs H Q E h⟩, F.bindsN fun _ _ _ _ _ _ us hl => match us, hl with | [_], _ => rfl⟩, F.kp⟩
theorem ok_law_draw {P : Program} {w : World} {K : PySem.W.Frag} {mg : Str → Option Value} {base : Heap} (T : Txt P K mg) (F : HasD K d_law_draw) : Good P w K mg base 2 (He.ga K "_law_draw") ["_law_pen_here", "_law_span"] (sp_law_draw K) := by
  obtain ⟨fd, F⟩ := F
  have F : FunD K "_law_draw" "_law_draw" (defArgs s_law_draw) (defBody s_law_draw) (defScope s_law_draw) [] [] (He.ga K "_law_draw") fd := F
  exact ⟨⟨fd, F.ok sc_law_draw (fun vs H Q E h => by obtain ⟨_, _, _, _, e, _⟩ := h; rw [e]; rfl) fun cdv A outer s H vs Q E hr h => ⟨t_law_draw K, w_law_draw T hr, r_law_draw vs H Q E h⟩, F.bindsN fun _ _ _ _ _ _ us hl => match us, hl with | [_, _], _ => rfl⟩, F.kp⟩
theorem ok_law_pick {P : Program} {w : World} {K : PySem.W.Frag} {mg : Str → Option Value} {base : Heap} (T : Txt P K mg) (F : HasD K d_law_pick)
    (G_law_draw : Good P w K mg base 2 (He.ga K "_law_draw") ["_law_pen_here", "_law_span"] (sp_law_draw K)) : Good P w K mg base 4 (He.ga K "_law_pick") ["_law_pen_here", "_law_options"] (sp_law_pick K) := by
  obtain ⟨fd, F⟩ := F
  have F : FunD K "_law_pick" "_law_pick" (defArgs s_law_pick) (defBody s_law_pick) (defScope s_law_pick) [] [] (He.ga K "_law_pick") fd := F
  exact ⟨⟨fd, F.ok sc_law_pick (fun vs H Q E h => by obtain ⟨_, _, _, _, _, e, _⟩ := h; rw [e]; rfl) fun cdv A outer s H vs Q E hr h => ⟨t_law_pick K, w_law_pick T G_law_draw hr, r_law_pick vs H Q E h⟩, F.bindsN fun _ _ _ _ _ _ us hl => match us, hl with | [_, _], _ => rfl⟩, F.kp⟩
theorem ok_law_shuffled {P : Program} {w : World} {K : PySem.W.Frag} {mg : Str → Option Value} {base : Heap} (T : Txt P K mg) (F : HasD K d_law_shuffled)
    (G_law_draw : Good P w K mg base 2 (He.ga K "_law_draw") ["_law_pen_here", "_law_span"] (sp_law_draw K)) : Good P w K mg base 4 (He.ga K "_law_shuffled") ["_law_pen_here", "_law_items"] (sp_law_shuffled K) := by
  obtain ⟨fd, F⟩ := F
  have F : FunD K "_law_shuffled" "_law_shuffled" (defArgs s_law_shuffled) (defBody s_law_shuffled) (defScope s_law_shuffled) [] [] (He.ga K "_law_shuffled") fd := F
  exact ⟨⟨fd, F.ok sc_law_shuffled (fun vs H Q E h => by obtain ⟨_, _, _, _, _, e, _⟩ := h; rw [e]; rfl) fun cdv A outer s H vs Q E hr h => ⟨t_law_shuffled K, w_law_shuffled T G_law_draw hr, r_law_shuffled vs H Q E h⟩, F.bindsN fun _ _ _ _ _ _ us hl => match us, hl with | [_, _], _ => rfl⟩, F.kp⟩
theorem ok_law_nine {P : Program} {w : World} {K : PySem.W.Frag} {mg : Str → Option Value} {base : Heap} (T : Txt P K mg) (F : HasD K d_law_nine) : Good P w K mg base 2 (He.ga K "_law_nine") [] (sp_law_nine K) := by
  obtain ⟨fd, F⟩ := F
  have F : FunD K "_law_nine" "_law_nine" (defArgs s_law_nine) (defBody s_law_nine) (defScope s_law_nine) [] [] (He.ga K "_law_nine") fd := F
  exact ⟨⟨fd, F.ok sc_law_nine (fun vs H Q E h => by obtain ⟨e, _⟩ := h; rw [e]; rfl) fun cdv A outer s H vs Q E hr h => ⟨t_law_nine K, w_law_nine T hr, r_law_nine vs H Q E h⟩, F.bindsN fun _ _ _ _ _ _ us hl => match us, hl with | [], _ => rfl⟩, F.kp⟩
theorem ok_law_few {P : Program} {w : World} {K : PySem.W.Frag} {mg : Str → Option Value} {base : Heap} (T : Txt P K mg) (F : HasD K d_law_few)
    (G_law_draw : Good P w K mg base 2 (He.ga K "_law_draw") ["_law_pen_here", "_law_span"] (sp_law_draw K)) : Good P w K mg base 4 (He.ga K "_law_few") ["_law_pen_here", "_law_items", "_law_span"] (sp_law_few K) := by
  obtain ⟨fd, F⟩ := F
  have F : FunD K "_law_few" "_law_few" (defArgs s_law_few) (defBody s_law_few) (defScope s_law_few) [] [] (He.ga K "_law_few") fd := F
  exact ⟨⟨fd, F.ok sc_law_few (fun vs H Q E h => by obtain ⟨_, _, _, _, _, _, e, _⟩ := h; rw [e]; rfl) fun cdv A outer s H vs Q E hr h => ⟨t_law_few K, w_law_few T G_law_draw hr, r_law_few vs H Q E h⟩, F.bindsN fun _ _ _ _ _ _ us hl => match us, hl with | [_, _, _], _ => rfl⟩, F.kp⟩
theorem ok_law_from_left {P : Program} {w : World} {K : PySem.W.Frag} {mg : Str → Option Value} {base : Heap} (T : Txt P K mg) (F : HasD K d_law_from_left) : Good P w K mg base 2 (He.ga K "_law_from_left") ["_law_rows", "_law_some"] (sp_law_from_left K) := by
  obtain ⟨fd, F⟩ := F
  have F : FunD K "_law_from_left" "_law_from_left" (defArgs s_law_from_left) (defBody s_law_from_left) (defScope s_law_from_left) [] [] (He.ga K "_law_from_left") fd := F
  exact ⟨⟨fd, F.ok sc_law_from_left (fun vs H Q E h => by obtain ⟨_, _, _, _, _, _, e, _⟩ := h; rw [e]; rfl) fun cdv A outer s H vs Q E hr h => ⟨t_law_from_left K, w_law_from_left T hr, r_law_from_left vs H Q E h⟩, F.bindsN fun _ _ _ _ _ _ us hl => match us, hl with | [_, _], _ => rfl⟩, F.kp⟩
theorem ok_law_equal_sides {P : Program} {w : World} {K : PySem.W.Frag} {mg : Str → Option Value} {base : Heap} (T : Txt P K mg) (F : HasD K d_law_equal_sides) : Good P w K mg base 2 (He.ga K "_law_equal_sides") ["_law_rule", "_law_x", "_law_y", "_law_z"] (sp_law_equal_sides K) := by
  obtain ⟨fd, F⟩ := F
  have F : FunD K "_law_equal_sides" "_law_equal_sides" (defArgs s_law_equal_sides) (defBody s_law_equal_sides) (defScope s_law_equal_sides) [] [] (He.ga K "_law_equal_sides") fd := F
  exact ⟨⟨fd, F.ok sc_law_equal_sides (fun vs H Q E h => by obtain ⟨_, _, _, _, e, _⟩ := h; rw [e]; rfl) fun cdv A outer s H vs Q E hr h => ⟨t_law_equal_sides K, w_law_equal_sides T hr, r_law_equal_sides vs H Q E h⟩, F.bindsN fun _ _ _ _ _ _ us hl => match us, hl with | [_, _, _, _], _ => rfl⟩, F.kp⟩
theorem ok_law_triple_holds {P : Program} {w : World} {K : PySem.W.Frag} {mg : Str → Option Value} {base : Heap} (T : Txt P K mg) (F : HasD K d_law_triple_holds)
    (G_law_equal_sides : Good P w K mg base 2 (He.ga K "_law_equal_sides") ["_law_rule", "_law_x", "_law_y", "_law_z"] (sp_law_equal_sides K))
    (G_law_from_left : Good P w K mg base 2 (He.ga K "_law_from_left") ["_law_rows", "_law_some"] (sp_law_from_left K)) : Good P w K mg base 4 (He.ga K "_law_triple_holds") ["_law_rows", "_law_rule", "_law_x", "_law_y", "_law_z"] (sp_law_triple_holds K) := by
  obtain ⟨fd, F⟩ := F
  have F : FunD K "_law_triple_holds" "_law_triple_holds" (defArgs s_law_triple_holds) (defBody s_law_triple_holds) (defScope s_law_triple_holds) [] [] (He.ga K "_law_triple_holds") fd := F
  exact ⟨⟨fd, F.ok sc_law_triple_holds (fun vs H Q E h => by obtain ⟨_, _, _, _, _, _, _, _, e, _⟩ := h; rw [e]; rfl) fun cdv A outer s H vs Q E hr h => ⟨t_law_triple_holds K, w_law_triple_holds T G_law_equal_sides G_law_from_left hr, r_law_triple_holds vs H Q E h⟩, F.bindsN fun _ _ _ _ _ _ us hl => match us, hl with | [_, _, _, _, _], _ => rfl⟩, F.kp⟩
theorem ok_law_first_break {P : Program} {w : World} {K : PySem.W.Frag} {mg : Str → Option Value} {base : Heap} (T : Txt P K mg) (F : HasD K d_law_first_break)
    (G_law_triple_holds : Good P w K mg base 4 (He.ga K "_law_triple_holds") ["_law_rows", "_law_rule", "_law_x", "_law_y", "_law_z"] (sp_law_triple_holds K)) : Good P w K mg base 6 (He.ga K "_law_first_break") ["_law_rows", "_law_rule"] (sp_law_first_break K) := by
  obtain ⟨fd, F⟩ := F
  have F : FunD K "_law_first_break" "_law_first_break" (defArgs s_law_first_break) (defBody s_law_first_break) (defScope s_law_first_break) [] [] (He.ga K "_law_first_break") fd := F
  exact ⟨⟨fd, F.ok sc_law_first_break (fun vs H Q E h => by obtain ⟨_, _, _, _, _, e, _⟩ := h; rw [e]; rfl) fun cdv A outer s H vs Q E hr h => ⟨t_law_first_break K, w_law_first_break T G_law_triple_holds hr, r_law_first_break vs H Q E h⟩, F.bindsN fun _ _ _ _ _ _ us hl => match us, hl with | [_, _], _ => rfl⟩, F.kp⟩
theorem ok_law_rules_kept {P : Program} {w : World} {K : PySem.W.Frag} {mg : Str → Option Value} {base : Heap} (T : Txt P K mg) (F : HasD K d_law_rules_kept)
    (G_law_nine : Good P w K mg base 2 (He.ga K "_law_nine") [] (sp_law_nine K))
    (G_law_first_break : Good P w K mg base 6 (He.ga K "_law_first_break") ["_law_rows", "_law_rule"] (sp_law_first_break K)) : Good P w K mg base 8 (He.ga K "_law_rules_kept") ["_law_rows"] (sp_law_rules_kept K) := by
  obtain ⟨fd, F⟩ := F
  have F : FunD K "_law_rules_kept" "_law_rules_kept" (defArgs s_law_rules_kept) (defBody s_law_rules_kept) (defScope s_law_rules_kept) [] [] (He.ga K "_law_rules_kept") fd := F
  exact ⟨⟨fd, F.ok sc_law_rules_kept (fun vs H Q E h => by obtain ⟨_, _, _, _, e, _⟩ := h; rw [e]; rfl) fun cdv A outer s H vs Q E hr h => ⟨t_law_rules_kept K, w_law_rules_kept T G_law_nine G_law_first_break hr, r_law_rules_kept vs H Q E h⟩, F.bindsN fun _ _ _ _ _ _ us hl => match us, hl with | [_], _ => rfl⟩, F.kp⟩
theorem ok_law_shortened {P : Program} {w : World} {K : PySem.W.Frag} {mg : Str → Option Value} {base : Heap} (T : Txt P K mg) (F : HasD K d_law_shortened) : Good P w K mg base 2 (He.ga K "_law_shortened") ["_law_word", "_law_way"] (sp_law_shortened K) := by
  obtain ⟨fd, F⟩ := F
  have F : FunD K "_law_shortened" "_law_shortened" (defArgs s_law_shortened) (defBody s_law_shortened) (defScope s_law_shortened) [] [] (He.ga K "_law_shortened") fd := F
  exact ⟨⟨fd, F.ok sc_law_shortened (fun vs H Q E h => by obtain ⟨_, _, e, _⟩ := h; rw [e]; rfl) fun cdv A outer s H vs Q E hr h => ⟨t_law_shortened K, w_law_shortened T hr, r_law_shortened vs H Q E h⟩, F.bindsN fun _ _ _ _ _ _ us hl => match us, hl with | [_, _], _ => rfl⟩, F.kp⟩
theorem ok_law_word_rows {P : Program} {w : World} {K : PySem.W.Frag} {mg : Str → Option Value} {base : Heap} (T : Txt P K mg) (F : HasD K d_law_word_rows)
    (G_law_shortened : Good P w K mg base 2 (He.ga K "_law_shortened") ["_law_word", "_law_way"] (sp_law_shortened K)) : Good P w K mg base 4 (He.ga K "_law_word_rows") ["_law_words", "_law_ways"] (sp_law_word_rows K) := by
  obtain ⟨fd, F⟩ := F
  have F : FunD K "_law_word_rows" "_law_word_rows" (defArgs s_law_word_rows) (defBody s_law_word_rows) (defScope s_law_word_rows) [] [] (He.ga K "_law_word_rows") fd := F
  exact ⟨⟨fd, F.ok sc_law_word_rows (fun vs H Q E h => by obtain ⟨_, _, _, _, e, _⟩ := h; rw [e]; rfl) fun cdv A outer s H vs Q E hr h => ⟨t_law_word_rows K, w_law_word_rows T G_law_shortened hr, r_law_word_rows vs H Q E h⟩, F.bindsN fun _ _ _ _ _ _ us hl => match us, hl with | [_, _], _ => rfl⟩, F.kp⟩
theorem ok_law_base_rows {P : Program} {w : World} {K : PySem.W.Frag} {mg : Str → Option Value} {base : Heap} (T : Txt P K mg) (F : HasD K d_law_base_rows)
    (G_law_draw : Good P w K mg base 2 (He.ga K "_law_draw") ["_law_pen_here", "_law_span"] (sp_law_draw K))
    (G_law_word_rows : Good P w K mg base 4 (He.ga K "_law_word_rows") ["_law_words", "_law_ways"] (sp_law_word_rows K)) : Good P w K mg base 6 (He.ga K "_law_base_rows") ["_law_pen_here"] (sp_law_base_rows K) := by
  obtain ⟨fd, F⟩ := F
  have F : FunD K "_law_base_rows" "_law_base_rows" (defArgs s_law_base_rows) (defBody s_law_base_rows) (defScope s_law_base_rows) [] [] (He.ga K "_law_base_rows") fd := F
  exact ⟨⟨fd, F.ok sc_law_base_rows (fun vs H Q E h => by obtain ⟨_, _, _, e, _⟩ := h; rw [e]; rfl) fun cdv A outer s H vs Q E hr h => ⟨t_law_base_rows K, w_law_base_rows T G_law_draw G_law_word_rows hr, r_law_base_rows vs H Q E h⟩, F.bindsN fun _ _ _ _ _ _ us hl => match us, hl with | [_], _ => rfl⟩, F.kp⟩
theorem ok_law_twisted_rows {P : Program} {w : World} {K : PySem.W.Frag} {mg : Str → Option Value} {base : Heap} (T : Txt P K mg) (F : HasD K d_law_twisted_rows)
    (G_law_shuffled : Good P w K mg base 4 (He.ga K "_law_shuffled") ["_law_pen_here", "_law_items"] (sp_law_shuffled K)) : Good P w K mg base 6 (He.ga K "_law_twisted_rows") ["_law_pen_here", "_law_rows"] (sp_law_twisted_rows K) := by
  obtain ⟨fd, F⟩ := F
  have F : FunD K "_law_twisted_rows" "_law_twisted_rows" (defArgs s_law_twisted_rows) (defBody s_law_twisted_rows) (defScope s_law_twisted_rows) [] [] (He.ga K "_law_twisted_rows") fd := F
  exact ⟨⟨fd, F.ok sc_law_twisted_rows (fun vs H Q E h => by obtain ⟨_, _, _, _, _, _, _, e, _⟩ := h; rw [e]; rfl) fun cdv A outer s H vs Q E hr h => ⟨t_law_twisted_rows K, w_law_twisted_rows T G_law_shuffled hr, r_law_twisted_rows vs H Q E h⟩, F.bindsN fun _ _ _ _ _ _ us hl => match us, hl with | [_, _], _ => rfl⟩, F.kp⟩
theorem ok_law_rows_drawn {P : Program} {w : World} {K : PySem.W.Frag} {mg : Str → Option Value} {base : Heap} (T : Txt P K mg) (F : HasD K d_law_rows_drawn)
    (G_law_twisted_rows : Good P w K mg base 6 (He.ga K "_law_twisted_rows") ["_law_pen_here", "_law_rows"] (sp_law_twisted_rows K))
    (G_law_base_rows : Good P w K mg base 6 (He.ga K "_law_base_rows") ["_law_pen_here"] (sp_law_base_rows K))
    (G_law_draw : Good P w K mg base 2 (He.ga K "_law_draw") ["_law_pen_here", "_law_span"] (sp_law_draw K)) : Good P w K mg base 8 (He.ga K "_law_rows_drawn") ["_law_pen_here"] (sp_law_rows_drawn K) := by
  obtain ⟨fd, F⟩ := F
  have F : FunD K "_law_rows_drawn" "_law_rows_drawn" (defArgs s_law_rows_drawn) (defBody s_law_rows_drawn) (defScope s_law_rows_drawn) [] [] (He.ga K "_law_rows_drawn") fd := F
  exact ⟨⟨fd, F.ok sc_law_rows_drawn (fun vs H Q E h => by obtain ⟨_, _, _, e, _⟩ := h; rw [e]; rfl) fun cdv A outer s H vs Q E hr h => ⟨t_law_rows_drawn K, w_law_rows_drawn T G_law_twisted_rows G_law_base_rows G_law_draw hr, r_law_rows_drawn vs H Q E h⟩, F.bindsN fun _ _ _ _ _ _ us hl => match us, hl with | [_], _ => rfl⟩, F.kp⟩
theorem ok_law_table_of_rows {P : Program} {w : World} {K : PySem.W.Frag} {mg : Str → Option Value} {base : Heap} (T : Txt P K mg) (F : HasD K d_law_table_of_rows)
    (G_Tinit1 : Good1 P w K mg base 6 (mTab K "__init__") ["self", "size", "rows"] (sp_Tinit K))
    (G_Tsetitem : Good P w K mg base 9 (mTab K "__setitem__") ["self", "at", "worth"] (sp_Tsetitem K)) : Good P w K mg base 12 (He.ga K "_law_table_of_rows") ["_law_rows"] (sp_law_table_of_rows K) := by
  obtain ⟨fd, F⟩ := F
  have F : FunD K "_law_table_of_rows" "_law_table_of_rows" (defArgs s_law_table_of_rows) (defBody s_law_table_of_rows) (defScope s_law_table_of_rows) [] [] (He.ga K "_law_table_of_rows") fd := F
  exact ⟨⟨fd, F.ok sc_law_table_of_rows (fun vs H Q E h => by obtain ⟨_, _, _, _, e, _⟩ := h; rw [e]; rfl) fun cdv A outer s H vs Q E hr h => ⟨t_law_table_of_rows K, w_law_table_of_rows T G_Tinit1 G_Tsetitem hr, r_law_table_of_rows vs H Q E h⟩, F.bindsN fun _ _ _ _ _ _ us hl => match us, hl with | [_], _ => rfl⟩, F.kp⟩
theorem ok_law_rows_of_table {P : Program} {w : World} {K : PySem.W.Frag} {mg : Str → Option Value} {base : Heap} (T : Txt P K mg) (F : HasD K d_law_rows_of_table)
    (G_Tgetitem : Good P w K mg base 9 (mTab K "__getitem__") ["self", "at"] (sp_Tgetitem K)) : Good P w K mg base 12 (He.ga K "_law_rows_of_table") ["_law_made"] (sp_law_rows_of_table K) := by
  obtain ⟨fd, F⟩ := F
  have F : FunD K "_law_rows_of_table" "_law_rows_of_table" (defArgs s_law_rows_of_table) (defBody s_law_rows_of_table) (defScope s_law_rows_of_table) [] [] (He.ga K "_law_rows_of_table") fd := F
  exact ⟨⟨fd, F.ok sc_law_rows_of_table (fun vs H Q E h => by obtain ⟨_, _, _, _, _, e, _⟩ := h; rw [e]; rfl) fun cdv A outer s H vs Q E hr h => ⟨t_law_rows_of_table K, w_law_rows_of_table T G_Tgetitem hr, r_law_rows_of_table T vs H Q E h⟩, F.bindsN fun _ _ _ _ _ _ us hl => match us, hl with | [_], _ => rfl⟩, F.kp⟩
theorem ok_law_closed_values {P : Program} {w : World} {K : PySem.W.Frag} {mg : Str → Option Value} {base : Heap} (T : Txt P K mg) (F : HasD K d_law_closed_values)
    (G_law_once : Good P w K mg base 2 (He.ga K "_law_once") ["_law_items"] (sp_law_once K)) : Good P w K mg base 4 (He.ga K "_law_closed_values") ["_law_rows", "_law_values"] (sp_law_closed_values K) := by
  obtain ⟨fd, F⟩ := F
  have F : FunD K "_law_closed_values" "_law_closed_values" (defArgs s_law_closed_values) (defBody s_law_closed_values) (defScope s_law_closed_values) [] [] (He.ga K "_law_closed_values") fd := F
  exact ⟨⟨fd, F.ok sc_law_closed_values (fun vs H Q E h => by obtain ⟨_, _, _, _, _, _, e, _⟩ := h; rw [e]; rfl) fun cdv A outer s H vs Q E hr h => ⟨t_law_closed_values K, w_law_closed_values T G_law_once hr, r_law_closed_values vs H Q E h⟩, F.bindsN fun _ _ _ _ _ _ us hl => match us, hl with | [_, _], _ => rfl⟩, F.kp⟩
theorem ok_law_once {P : Program} {w : World} {K : PySem.W.Frag} {mg : Str → Option Value} {base : Heap} (T : Txt P K mg) (F : HasD K d_law_once) : Good P w K mg base 2 (He.ga K "_law_once") ["_law_items"] (sp_law_once K) := by
  obtain ⟨fd, F⟩ := F
  have F : FunD K "_law_once" "_law_once" (defArgs s_law_once) (defBody s_law_once) (defScope s_law_once) [] [] (He.ga K "_law_once") fd := F
  exact ⟨⟨fd, F.ok sc_law_once (fun vs H Q E h => by obtain ⟨_, _, e, _⟩ := h; rw [e]; rfl) fun cdv A outer s H vs Q E hr h => ⟨t_law_once K, w_law_once T hr, r_law_once vs H Q E h⟩, F.bindsN fun _ _ _ _ _ _ us hl => match us, hl with | [_], _ => rfl⟩, F.kp⟩
theorem ok_law_rows_text {P : Program} {w : World} {K : PySem.W.Frag} {mg : Str → Option Value} {base : Heap} (T : Txt P K mg) (F : HasD K d_law_rows_text) : Good P w K mg base 2 (He.ga K "_law_rows_text") ["_law_rows"] (sp_law_rows_text K) := by
  obtain ⟨fd, F⟩ := F
  have F : FunD K "_law_rows_text" "_law_rows_text" (defArgs s_law_rows_text) (defBody s_law_rows_text) (defScope s_law_rows_text) [] [] (He.ga K "_law_rows_text") fd := F
  exact ⟨⟨fd, F.ok sc_law_rows_text (fun vs H Q E h => by obtain ⟨_, _, _, _, e, _⟩ := h; rw [e]; rfl) fun cdv A outer s H vs Q E hr h => ⟨t_law_rows_text K, w_law_rows_text T hr, r_law_rows_text vs H Q E h⟩, F.bindsN fun _ _ _ _ _ _ us hl => match us, hl with | [_], _ => rfl⟩, F.kp⟩
theorem ok_law_open_pair {P : Program} {w : World} {K : PySem.W.Frag} {mg : Str → Option Value} {base : Heap} (T : Txt P K mg) (F : HasD K d_law_open_pair) : Good P w K mg base 2 (He.ga K "_law_open_pair") ["_law_rows", "_law_kept"] (sp_law_open_pair K) := by
  obtain ⟨fd, F⟩ := F
  have F : FunD K "_law_open_pair" "_law_open_pair" (defArgs s_law_open_pair) (defBody s_law_open_pair) (defScope s_law_open_pair) [] [] (He.ga K "_law_open_pair") fd := F
  exact ⟨⟨fd, F.ok sc_law_open_pair (fun vs H Q E h => by obtain ⟨_, _, _, _, _, _, e, _⟩ := h; rw [e]; rfl) fun cdv A outer s H vs Q E hr h => ⟨t_law_open_pair K, w_law_open_pair T hr, r_law_open_pair vs H Q E h⟩, F.bindsN fun _ _ _ _ _ _ us hl => match us, hl with | [_, _], _ => rfl⟩, F.kp⟩
end K28
end
section
namespace K28
open PySem PySem.Spec L2 PyProof.Rows Evl
abbrev s_law_tried : Stmt := top 42
abbrev n_law_tried : List Str := ["_law_call", "_law_found", "e"]
theorem sc_law_tried : FnScope n_law_tried ["_law_call"] (defScope s_law_tried) := ⟨rfl, rfl, rfl, by decide +kernel, rfl, by decide +kernel, by decide +kernel⟩
def d_law_tried : He.DefD := ⟨("_law_tried", none), "_law_tried", "_law_tried", defArgs s_law_tried, defBody s_law_tried, defScope s_law_tried, [], []⟩
/-! ### isinstance in a suite, the class told by the reading -/
def rIsC (K : PySem.W.Frag) (C a : Addr) (cls : Value) (d : Option Addr) : List V → Hp → VK → Prop := fun xs H Q => cls = .ref C ∧ ∃ dx fs, d = some dx ∧ H dx = some (.xd fs) ∧ rIsE K C a xs H Q
theorem call_isC {X : Cx} {a C : Addr} {cls : Value} {d : Option Addr} {eo : Obj} {ps : List (Addr × Obj)} (h : ExcC X.K C) (zc : Zc cls d eo) (hf : ∃ fv, eo.data = .fields fv) : CallR (X.suite a ((a, eo) :: ps)) (.builtin "isinstance") (rIsC X.K C a cls d) := by
  intro pins s σ H xs us Q I r hh
  obtain ⟨rfl, dx, fs, rfl, hdx, q⟩ := hh
  exact call_isX h zc hf pins s σ H xs us Q I r ⟨fs, hdx, q⟩
theorem pss_len {X : Cx} {b : List Stmt} {t : TS} (h : PSs X b t) : PSs X b (fun D σ H => σ.length = X.N.length → t D σ H) := ⟨fun pins s σ H D I q => h.run pins s σ H D I (q I.len)⟩
section
variable {X : Cx}
def tIs (K : PySem.W.Frag) (C a : Addr) (cls : Value) (d : Option Addr) (v : V) : TE := tCB (rIsC K C a cls d) (tCons (tVar 2) (tCons (tC v) tNil))
def tSuite (K : PySem.W.Frag) (w : Str) (fs : List Str) (C : Addr) (v1 v2 : V) (neg : Bool) (a : Addr) (cls : Value) (d : Option Addr) : TS := fun D σ H => σ.length = 3 →
  tRet (tTup (tCons (tC (.str w)) ((fs.map fun f => tXf a cls d C f (tVar 2)).foldr tCons (tCons (tAndV (tIs K C a cls d v1) (if neg then tNotV (tIs K C a cls d v2) else tIs K C a cls d v2)) tNil)))) D σ H
/-- what a suite hands back -/
theorem suite_back {K : PySem.W.Frag} {w : Str} {C a dd : Addr} {v1 v2 : V} {c1 c2 : Value} {neg b2 : Bool} {σ : L2.St} {G : Hp} {D : Ends} (fs : List Str) (vs : List V) (kvs : List (Str × V)) (hG : G dd = some (.xd kvs)) (hf : Paired (fun f v => kvs.lookup f = some v) fs vs)
    (hl : vs.length ≤ 100) (r1 : ∀ u, RelV v1 u → u = c1) (r2 : ∀ u, RelV v2 u → u = c2) (k1 : PySem.W.kitOne K (.ref C) c1 = some true) (k2 : PySem.W.kitOne K (.ref C) c2 = some b2) (hb : (if neg then !b2 else b2) = true)
    (q : ∀ p, G p = none → D.rt (.ref p) (upd G p (.tup (.str w :: (vs ++ [.bl true]))))) : tSuite K w fs C v1 v2 neg a (.ref C) (some dd) (unE 2 D) (σ.set 2 (some (.ref a))) G := by
  intro hlen
  rw [List.length_set] at hlen
  have h2 : (σ.set 2 (some (.ref a)))[2]? = some (some (.ref a)) := by
    rw [List.getElem?_set_self (by omega)]
  have is1 : ∀ {v : V} {c : Value} {b : Bool} {Q : VK}, (∀ u, RelV v u → u = c) → PySem.W.kitOne K (.ref C) c = some b → Q (.bl b) G → tIs K C a (.ref C) (some dd) v (σ.set 2 (some (.ref a))) G Q := fun {v c b Q} r k q =>
    ⟨_, h2, rfl, dd, kvs, rfl, hG, v, c, b, rfl, r, k, q⟩
  have tail : ∀ (Q : List V → Hp → Prop), Q [.bl true] G → (tCons (tAndV (tIs K C a (.ref C) (some dd) v1) (if neg then tNotV (tIs K C a (.ref C) (some dd) v2) else tIs K C a (.ref C) (some dd) v2)) tNil) (σ.set 2 (some (.ref a))) G Q := fun Q qq => by
    refine is1 (Q := fun x H1 => ∃ c, x = .bl c ∧ if c = true then (if neg then tNotV (tIs K C a (.ref C) (some dd) v2) else tIs K C a (.ref C) (some dd) v2) (σ.set 2 (some (.ref a))) H1 _ else _) r1 k1 ⟨true, rfl, ?_⟩
    rw [if_pos rfl]
    cases neg with
    | true =>
      rw [if_pos rfl]
      refine is1 (Q := fun x H1 => ∃ c, x = .bl c ∧ _) r2 k2 ⟨b2, rfl, ?_⟩
      rw [if_pos rfl] at hb
      rw [hb]
      exact qq
    | false =>
      rw [if_neg (by decide)]
      refine is1 r2 k2 ?_
      rw [if_neg (by decide)] at hb
      rw [hb]
      exact qq
  have mid : ∀ (fs : List Str) (vs : List V), Paired (fun f v => kvs.lookup f = some v) fs vs → ∀ (Q : List V → Hp → Prop), Q (vs ++ [.bl true]) G →
      ((fs.map fun f => tXf a (.ref C) (some dd) C f (tVar 2)).foldr tCons (tCons (tAndV (tIs K C a (.ref C) (some dd) v1) (if neg then tNotV (tIs K C a (.ref C) (some dd) v2) else tIs K C a (.ref C) (some dd) v2)) tNil)) (σ.set 2 (some (.ref a))) G Q := by
    intro fs vs p
    induction p with
    | nil => exact fun Q qq => tail Q qq
    | cons hv _ ih => exact fun Q qq => ⟨.ref a, h2, rfl, rfl, dd, kvs, _, rfl, hG, hv, ih _ qq⟩
  refine mid fs vs hf _ ⟨?_, fun p np => q p np⟩
  have : (V.str w :: (vs ++ [.bl true])).length = vs.length + 2 := by simp
  rw [this]
  exact sz_of (by omega)
theorem tried_gives {q : Str} {g : Addr} {cdg : Value} (T : Txt X.prog X.K X.mg) : LamX.GivesTo X n_law_tried "_law_tried" (defScope s_law_tried) g cdg (defBody s_law_tried) "_law_call" q (tried_TT X.K) := by
  intro f c' s H Q tl act hc h
  have nd := sc_law_tried.nd
  refine ⟨_, pss_cons (ps_try_manyAs (X := (cxOf C8.CX0 X.prog X.w X.K X.mg X.base n_law_tried "_law_tried" (defScope s_law_tried) g cdg X.A X.stack s H C8.E0).nox) (n := "e") (i := 2) (W := fun _ _ _ _ => False)
      (l := [(.ref (He.ga X.K "BadValue"), tSuite X.K "value" ["value"] (He.ga X.K "BadValue") (.ref (He.ga X.K "FoldError")) (.ref (He.ga X.K "BadSize")) true),
        (.ref (He.ga X.K "BadSize"), tSuite X.K "size" ["size"] (He.ga X.K "BadSize") (.ref (He.ga X.K "FoldError")) (.ref (He.ga X.K "BadValue")) true),
        (.ref (He.ga X.K "NotClosed"), tSuite X.K "open" ["left", "right"] (He.ga X.K "NotClosed") (.ref (He.ga X.K "FoldError")) (.ty "ValueError") false)])
      (tb := fun W D σ H => ∃ Ech : XK, (∀ cls d σ' H', Ech cls d H' → W cls d σ' H') ∧ σ[0]? = some (some (.ref f)) ∧ H c' = some (LamX.CodeO c' q) ∧ tl Ech H fun v H1 => D.nx (σ.set 1 (some v)) H1)
      rfl rfl nd rfl rfl LamX.takes0 (fun W pn xe tk _ => ?_) ?_) (pss_one (ps_ret (pv 1))), ?_⟩
  · refine ⟨fun pins s' σ H' D I h' => ?_⟩
    obtain ⟨Ech, hW, h1, h2, h3⟩ := h'
    have hp := fun p1 p2 => act W pn xe Ech p1 p2 tk hW
    exact (pss_one (ps_set (i := 1) nd rfl (Or.inl rfl) (hp _ _))).run pins s' σ H' D I ⟨h1, h2, h3⟩
  · refine .cons ⟨rfl, by decide, .inl (T.glo "BadValue" (by decide +kernel))⟩ ?_ (.cons ⟨rfl, by decide, .inl (T.glo "BadSize" (by decide +kernel))⟩ ?_ (.cons ⟨rfl, by decide, .inl (T.glo "NotClosed" (by decide +kernel))⟩ ?_ .nil))
    · intro a eo cls d ps hz hf
      have e := T.exc "BadValue" (by decide +kernel)
      exact pss_len (pss_one (ps_ret (pe_tup (pa_cons pe_str (pa_cons (pe_xf e.xf T.fval hz hf (pv 2)) (pa_cons (pe_and (pe_callB (call_isC e.exc hz hf) rfl (T.free "isinstance" (by decide +kernel)) boot_isinstance (pa_cons (pv 2) (pa_cons (g_tup (T.glo "FoldError" (by decide +kernel))) pa_nil)))
        (pe_one (pe_not (pe_callB (call_isC e.exc hz hf) rfl (T.free "isinstance" (by decide +kernel)) boot_isinstance (pa_cons (pv 2) (pa_cons (g_tup (T.glo "BadSize" (by decide +kernel))) pa_nil)))))) pa_nil))))))
    · intro a eo cls d ps hz hf
      have e := T.exc "BadSize" (by decide +kernel)
      exact pss_len (pss_one (ps_ret (pe_tup (pa_cons pe_str (pa_cons (pe_xf e.xf T.fsize hz hf (pv 2)) (pa_cons (pe_and (pe_callB (call_isC e.exc hz hf) rfl (T.free "isinstance" (by decide +kernel)) boot_isinstance (pa_cons (pv 2) (pa_cons (g_tup (T.glo "FoldError" (by decide +kernel))) pa_nil)))
        (pe_one (pe_not (pe_callB (call_isC e.exc hz hf) rfl (T.free "isinstance" (by decide +kernel)) boot_isinstance (pa_cons (pv 2) (pa_cons (g_tup (T.glo "BadValue" (by decide +kernel))) pa_nil)))))) pa_nil))))))
    · intro a eo cls d ps hz hf
      have e := T.exc "NotClosed" (by decide +kernel)
      exact pss_len (pss_one (ps_ret (pe_tup (pa_cons pe_str (pa_cons (pe_xf e.xf T.fleft hz hf (pv 2)) (pa_cons (pe_xf e.xf T.fright hz hf (pv 2)) (pa_cons (pe_and (pe_callB (call_isC e.exc hz hf) rfl (T.free "isinstance" (by decide +kernel)) boot_isinstance (pa_cons (pv 2) (pa_cons (g_tup (T.glo "FoldError" (by decide +kernel))) pa_nil)))
        (pe_one (pe_callB (call_isC e.exc hz hf) rfl (T.free "isinstance" (by decide +kernel)) boot_isinstance (pa_cons (pv 2) (pa_cons (pe_bltn rfl (T.free "ValueError" (by decide +kernel)) boot_ValueError rfl) pa_nil))))) pa_nil)))))))
  · have ret : (fun (v : V) (H1 : Hp) => (tVar 1) ((L2.start n_law_tried [.ref f]).set 1 (some v)) H1 Q) = Q := funext fun v => funext fun H1 => propext ⟨fun ⟨v', e, q⟩ => by cases e; exact q, fun q => ⟨v, rfl, q⟩⟩
    refine ⟨tried_E X.K Q, fun cls d σ' H' hE => ?_, rfl, hc, ?_⟩
    · have xv := T.exc "BadValue" (by decide +kernel)
      have xs := T.exc "BadSize" (by decide +kernel)
      have xn := T.exc "NotClosed" (by decide +kernel)
      rcases hE with ⟨dd, v, rfl, rfl, hd, q⟩ | ⟨dd, v, rfl, rfl, hd, q⟩ | ⟨dd, l, r, rfl, rfl, hd, q⟩
      · refine ⟨true, xv.exm "BadValue" (by decide +kernel), fun _ a na => ?_, (fun z => nomatch z)⟩
        exact suite_back (b2 := false) ["value"] [v] _ hd (.cons rfl .nil) (by show 1 ≤ 100; decide) (fun _ r => r) (fun _ r => r) xv.kitF (xv.kit "BadSize" (by decide +kernel)) rfl q
      · refine ⟨false, xs.exm "BadValue" (by decide +kernel), (fun z => nomatch z), fun _ => ⟨true, xs.exm "BadSize" (by decide +kernel), fun _ a na => ?_, (fun z => nomatch z)⟩⟩
        exact suite_back (b2 := false) ["size"] [v] _ hd (.cons rfl .nil) (by show 1 ≤ 100; decide) (fun _ r => r) (fun _ r => r) xs.kitF (xs.kit "BadValue" (by decide +kernel)) rfl q
      · refine ⟨false, xn.exm "BadValue" (by decide +kernel), (fun z => nomatch z), fun _ => ⟨false, xn.exm "BadSize" (by decide +kernel), (fun z => nomatch z), fun _ => ⟨true, xn.exm "NotClosed" (by decide +kernel), fun _ a na => ?_, (fun z => nomatch z)⟩⟩⟩
        exact suite_back (b2 := true) ["left", "right"] [l, r] _ hd (.cons rfl (.cons rfl .nil)) (by show 2 ≤ 100; decide) (fun _ r => r) (fun _ r => r) xn.kitF xn.kitV rfl q
    · show tl (tried_E X.K Q) H (fun (v : V) (H1 : Hp) => (tVar 1) ((L2.start n_law_tried [.ref f]).set 1 (some v)) H1 Q)
      rw [ret]
      exact h
end
end K28
end
section
namespace K28
open PySem PySem.Spec L2 PyProof.Rows
open LamX
def lamQ (q : Str) : Str := (q ++ ".<locals>.") ++ "<lambda>"
theorem cx_qual {CX : CXT} {P : Program} {w : World} {K : PySem.W.Frag} {mg : Str → Option Value} {base : Heap} {N : List Str} {qual : Str} {scope : Scope} {f : Addr} {cdv : Value} {A : Around} {outer : List Env} {s : Shared} {H : Hp} {E : XK} : (cxOf CX P w K mg base N qual scope f cdv A outer s H E).env.qual = qual ++ ".<locals>." := rfl
theorem cx_code {CX : CXT} {P : Program} {w : World} {K : PySem.W.Frag} {mg : Str → Option Value} {base : Heap} {N : List Str} {qual : Str} {scope : Scope} {f : Addr} {cdv : Value} {A : Around} {outer : List Env} {s : Shared} {H : Hp} {E : XK} : (cxOf CX P w K mg base N qual scope f cdv A outer s H E).env.code = cdv := rfl
theorem lam_passes {X : Cx} {A : Around} {outer : List Env} {s : Shared} {H : Hp} {E : XK} {scope : Scope} {f c' : Addr} : Passes (L2.CX X.prog X.w) (lamCx X A outer s H E scope f c') E := passes_call (takes_of rfl rfl rfl rfl) fun _ _ _ _ h => h
theorem f_lam {X : Cx} {q0 : Str} {sc0 : Scope} {LAMT : List (Addr × Str)} {c Pt : Addr} {k : Nat} {params : Arguments} {body : Expr} {scope : Scope} {t : XK → TE} {p lpos pos : Pos} (T : Txt X.prog X.K X.mg) (hD : HasD X.K d_law_tried)
    (TB : TabB X.base X.mg c Pt) (hcode : X.env.code = .ref c) (hq : X.env.qual = q0 ++ ".<locals>.") (hmT : (Pt, lamQ q0) ∈ LAMT) (hu : ∀ p ∈ LAMT, p.1 = Pt → p.2 = lamQ q0) (hr : Room (k + 2) X.A) (hg : Gl X "_law_tried") (hsc : X.env.scope = sc0) (L : lamSB sc0 scope = true) (hdef : defaultsOf params X.env = ([], []))
    (hbind : ∀ (q : Str) (cl : List (Str × Addr)) (pm cv ctv : Value), bindArgs (PySem.W.kla_fn "<lambda>" q params body scope cl pm cv ctv) ⟨[], []⟩ = pure [])
    (hbody : ∀ (A : Around) (outer : List Env) (s : Shared) (H : Hp) (E : XK) (f c' : Addr), Room k (A.deeper (lamEnv X scope s.heap.objs.size f c')) → PE (lamCx X A outer s H E scope f c') body (t E)) :
    PE X (.Call (.Name "_law_tried" p) [.Lambda params body scope lpos] [] pos) (tLam LAMT (tried_TT X.K) t) := by
  subst hsc
  unfold lamQ at hmT hu
  rw [← hq] at hmT hu
  obtain ⟨fd, F⟩ := hD
  have F : FunD X.K "_law_tried" "_law_tried" (defArgs s_law_tried) (defBody s_law_tried) (defScope s_law_tried) [] [] (He.ga X.K "_law_tried") fd := F
  have hb : L2.Binds X.K fd ["_law_call"] [] := F.bindsN fun _ _ _ _ _ _ us hl => match us, hl with | [_], _ => rfl
  obtain ⟨oc, od, dV, kV, doc, pm, an, cdv, ct, osl, rfl, lk, hcd, _, _⟩ := F.ex
  exact pe_lamcall (Ng := n_law_tried) hg (T.glo "_law_tried" (by decide +kernel)) F.kp lk hcd hb sc_law_tried rfl (Or.inl rfl) (tried_gives T) TB hcode hmT hu hr (lamS_by L) hdef hbind hbody
section
variable {X : Cx} {A : Around} {outer : List Env} {s : Shared} {H : Hp} {E : XK} {scope : Scope} {f c' : Addr} {k : Nat} {p1 p2 p3 p4 p5 p6 : Pos} {i j : Nat}
theorem lam_part (T : Txt X.prog X.K X.mg) (G : Good X.prog X.w X.K X.mg X.base 12 (mTab X.K "part") ["self", "values"] (sp_Tpart X.K)) (hr : Room k (A.deeper (lamEnv X scope s.heap.objs.size f c'))) (hk : 12 ≤ k)
    (ha : X.N[i]? = some "_law_made") (hb : X.N[j]? = some "_law_handed") (fa : scope.names.lookup ("_law_made" : Str) = some NameKind.free) (fb : scope.names.lookup ("_law_handed" : Str) = some NameKind.free) :
    PE (lamCx X A outer s H E scope f c') (.Call (.Attribute (.Name "_law_made" p1) "part" ⟨346, 36, 346, 50⟩) [.Name "_law_handed" p3] [] ⟨346, 36, 346, 63⟩) (tMeth (cTab X.K) "part" (sp_Tpart X.K) [] E (tVar i) (tCons (tVar j) tNil)) :=
  o_meth (X := lamCx X A outer s H E scope f c') T (m := "part") (by decide +kernel) G (hr.mono hk) (lam_passes (X := X)) (pv (X := lamCx X A outer s H E scope f c') i ha (Or.inr (Or.inr fa))) (pa_cons (pv (X := lamCx X A outer s H E scope f c') j hb (Or.inr (Or.inr fb))) pa_nil)
theorem lam_gen (T : Txt X.prog X.K X.mg) (G : Good X.prog X.w X.K X.mg X.base 9 (mTab X.K "generated") ["self", "values"] (sp_Tgenerated X.K)) (hr : Room k (A.deeper (lamEnv X scope s.heap.objs.size f c'))) (hk : 9 ≤ k)
    (ha : X.N[i]? = some "_law_made") (hb : X.N[j]? = some "_law_bent") (fa : scope.names.lookup ("_law_made" : Str) = some NameKind.free) (fb : scope.names.lookup ("_law_bent" : Str) = some NameKind.free) :
    PE (lamCx X A outer s H E scope f c') (.Call (.Attribute (.Name "_law_made" p1) "generated" ⟨378, 34, 378, 53⟩) [.Name "_law_bent" p3] [] ⟨378, 34, 378, 64⟩) (tMeth (cTab X.K) "generated" (sp_Tgenerated X.K) [] E (tVar i) (tCons (tVar j) tNil)) :=
  o_meth (X := lamCx X A outer s H E scope f c') T (m := "generated") (by decide +kernel) G (hr.mono hk) (lam_passes (X := X)) (pv (X := lamCx X A outer s H E scope f c') i ha (Or.inr (Or.inr fa))) (pa_cons (pv (X := lamCx X A outer s H E scope f c') j hb (Or.inr (Or.inr fb))) pa_nil)
theorem lam_partT (T : Txt X.prog X.K X.mg) (G : Good X.prog X.w X.K X.mg X.base 12 (mTab X.K "part") ["self", "values"] (sp_Tpart X.K)) (hr : Room k (A.deeper (lamEnv X scope s.heap.objs.size f c'))) (hk : 12 ≤ k)
    (ha : X.N[i]? = some "_law_made") (hb : X.N[j]? = some "_law_bent") (fa : scope.names.lookup ("_law_made" : Str) = some NameKind.free) (fb : scope.names.lookup ("_law_bent" : Str) = some NameKind.free) (ht : Gl (lamCx X A outer s H E scope f c') "tuple") :
    PE (lamCx X A outer s H E scope f c') (.Call (.Attribute (.Name "_law_made" p1) "part" ⟨380, 34, 380, 48⟩) [.Call (.Name "tuple" p5) [.Name "_law_bent" p3] [] p6] [] ⟨380, 34, 380, 66⟩) (tMeth (cTab X.K) "part" (sp_Tpart X.K) [] E (tVar i) (tCons (tCB (rTupS X.K) (tCons (tVar j) tNil)) tNil)) :=
  o_meth (X := lamCx X A outer s H E scope f c') T (m := "part") (by decide +kernel) G (hr.mono hk) (lam_passes (X := X)) (pv (X := lamCx X A outer s H E scope f c') i ha (Or.inr (Or.inr fa))) (pa_cons (c_tuple (X := lamCx X A outer s H E scope f c') (T.free "tuple" (by decide +kernel)) (pv (X := lamCx X A outer s H E scope f c') j hb (Or.inr (Or.inr fb))) (hg := ht)) pa_nil)
end
end K28
end
section
namespace K28
open PySem PySem.Spec L2 PyProof.Rows
theorem w_law_part_right {P : Program} {w : World} {K : PySem.W.Frag} {mg : Str → Option Value} {base : Heap} (T : Txt P K mg) (hD : HasD K d_law_tried)
    (G_law_once : Good P w K mg base 2 (He.ga K "_law_once") ["_law_items"] (sp_law_once K))
    (G_law_open_pair : Good P w K mg base 2 (He.ga K "_law_open_pair") ["_law_rows", "_law_kept"] (sp_law_open_pair K))
    (G_Tpart : Good P w K mg base 12 (mTab K "part") ["self", "values"] (sp_Tpart K))
    (G_law_rows_of_table : Good P w K mg base 12 (He.ga K "_law_rows_of_table") ["_law_made"] (sp_law_rows_of_table K))
    (G_law_rules_kept : Good P w K mg base 8 (He.ga K "_law_rules_kept") ["_law_rows"] (sp_law_rules_kept K))
    (G_Tstr : Good P w K mg base 2 (mTab K "__str__") ["self"] (sp_Tstr K))
    (G_law_rows_text : Good P w K mg base 2 (He.ga K "_law_rows_text") ["_law_rows"] (sp_law_rows_text K))
    (G_Trules : Good P w K mg base 8 (mTab K "rules") ["self"] (sp_Trules K))
    (G_Tsetitem : Good P w K mg base 9 (mTab K "__setitem__") ["self", "at", "worth"] (sp_Tsetitem K))
    {LAMT : List (Addr × Str)} {c Pt : Addr} (TB : LamX.TabB base mg c Pt) (hmT : (Pt, lamQ "_law_part_right") ∈ LAMT) (hu : ∀ p ∈ LAMT, p.1 = Pt → p.2 = lamQ "_law_part_right")
    {A : Around}
    {f : Addr} {outer : List Env} {s : Shared} {H : Hp} {E : XK} (hr : Room 21 (A.deeper (envOfC "_law_part_right" (defScope s_law_part_right) s.heap.objs.size f (.ref c)))) :
    PSs (cxOf (L2.CX P w) P w K mg base n_law_part_right "_law_part_right" (defScope s_law_part_right) f (.ref c) A outer s H E) (defBody s_law_part_right) (t_law_part_right K LAMT) := by
  have nd := sc_law_part_right.nd
  exact (pss_cons (ps_set (i := 3) nd rfl (Or.inr rfl) (c_sorted (T.free "sorted" (by decide +kernel)) (pe_lc (own := [("_law_value", 9)]) (g := (gName 9)) (tt := tYes) rfl nd (pi_list (f_call T G_law_once (hr.mono (by decide)) (T.glo "_law_once" (by decide +kernel)) (pa_cons (pv 2) pa_nil))) (blkOk_by (by kernel_rfl)) (fun _ _ _ _ _ => pg_name (i := 9) nd rfl (by first | exact Or.inl rfl | exact Or.inr rfl)) (fun _ _ _ _ _ => pts_nil) (fun _ _ _ _ _ => (c_int (T.free "int" (by decide +kernel)) (pv 9))))))
    (pss_cons (ps_set (i := 4) nd rfl (Or.inl rfl) (pe_ifExp (pt_cmpR (op_eqD hr.units) (pv 3) (pe_lst pa_nil) (nomark _)) (pe_tup (pa_cons pe_str (pa_cons pe_int (pa_cons pe_bl pa_nil)))) (f_call T G_law_open_pair (hr.mono (by decide)) (T.glo "_law_open_pair" (by decide +kernel)) (pa_cons (pv 1) (pa_cons (pv 3) pa_nil)))))
    (pss_cons (ps_set (i := 5) nd rfl (Or.inr rfl) (c_list (T.free "list" (by decide +kernel)) (pv 2)))
    (pss_cons (ps_set (i := 6) nd rfl (Or.inr rfl) (f_lam (k := 19) (q0 := "_law_part_right") (sc0 := defScope s_law_part_right) T hD TB cx_code cx_qual hmT hu hr (by rfl) (by rfl) (by decide +kernel) (by rfl) (by intros; rfl) fun _ _ _ _ _ _ _ hr => lam_part T G_Tpart hr (by decide) rfl rfl rfl rfl))
    (pss_cons (ps_if (PW.pt (pw_or (pt_cmpR (op_neD hr.units) (pv 5) (pv 2) (nomark _)) (pw_or1 (pt_cmpR op_notN (pv 4) pe_non (nomark _))))) (pss_one (ps_ret (pe_and (pe_cmpR (op_eqD hr.units) (pv 5) (pv 2) (nomark _)) (pe_one (pe_cmpR (op_eqD hr.units) (pv 6) (pv 4) (nomark _)))))) pss_nil)
    (pss_cons (ps_if (pt_cmpR (op_neD hr.units) (f_call T G_law_rows_of_table (hr.mono (by decide)) (T.glo "_law_rows_of_table" (by decide +kernel)) (pa_cons (o_meth T (m := "part") (by decide +kernel) G_Tpart (hr.mono (by decide)) passL (pv 0) (pa_cons (c_tuple (T.free "tuple" (by decide +kernel)) (pv 2)) pa_nil)) pa_nil)) (f_call T G_law_rows_of_table (hr.mono (by decide)) (T.glo "_law_rows_of_table" (by decide +kernel)) (pa_cons (pv 6) pa_nil)) (nomark _)) (pss_one (ps_ret pe_bl)) pss_nil)
    (pss_cons (ps_setLc (i := 7) (own := [("_law_a", 10)]) (g := (gName 10)) (tt := tYes) rfl nd rfl rfl (sw_true rfl rfl rfl (by decide +kernel)) (pi_list (pv 3)) (blkOk_by (by kernel_rfl)) (fun _ _ _ _ _ => pg_name (i := 10) nd rfl (by first | exact Or.inl rfl | exact Or.inr rfl)) (fun _ _ _ _ _ => pts_nil) (fun _ _ _ _ _ => (pe_ix ix_list (pv 1) (pv 10) (fun _ _ => rfl))))
    (pss_cons (ps_if (pt_cmpR (op_neD hr.units) (f_call T G_law_rows_of_table (hr.mono (by decide)) (T.glo "_law_rows_of_table" (by decide +kernel)) (pa_cons (pv 6) pa_nil)) (pe_lc (own := [("_law_line", 11)]) (g := (gName 11)) (tt := tYes) rfl nd (pi_list (pv 7)) (blkOk_by (by kernel_rfl)) (fun _ _ _ _ _ => pg_name (i := 11) nd rfl (by first | exact Or.inl rfl | exact Or.inr rfl)) (fun _ _ _ _ _ => pts_nil) (fun _ _ _ _ _ => (pe_lc (own := [("_law_b", 12)]) (g := (gName 12)) (tt := tYes) rfl nd (pi_list (pv 3)) (blkOk_by (by kernel_rfl)) (fun _ _ _ _ _ => pg_name (i := 12) nd rfl (by first | exact Or.inl rfl | exact Or.inr rfl)) (fun _ _ _ _ _ => pts_nil) (fun _ _ _ _ _ => (l_index (un65 hr) (pv 3) (pa_cons (pe_ix ix_list (pv 11) (pv 12) (fun _ _ => rfl)) pa_nil)))))) (nomark _)) (pss_one (ps_ret pe_bl)) pss_nil)
    (pss_cons (ps_set (i := 8) nd rfl (Or.inl rfl) (f_call T G_law_rules_kept (hr.mono (by decide)) (T.glo "_law_rules_kept" (by decide +kernel)) (pa_cons (pv 1) pa_nil)))
    (pss_cons (ps_if (pt_cmpR op_ne (o_str T G_Tstr (hr.mono (by decide)) (pv 6) (T.free "str" (by decide +kernel))) (f_call T G_law_rows_text (hr.mono (by decide)) (T.glo "_law_rows_text" (by decide +kernel)) (pa_cons (pe_lc (own := [("_law_line", 11)]) (g := (gName 11)) (tt := tYes) rfl nd (pi_list (pv 7)) (blkOk_by (by kernel_rfl)) (fun _ _ _ _ _ => pg_name (i := 11) nd rfl (by first | exact Or.inl rfl | exact Or.inr rfl)) (fun _ _ _ _ _ => pts_nil) (fun _ _ _ _ _ => (pe_lc (own := [("_law_b", 12)]) (g := (gName 12)) (tt := tYes) rfl nd (pi_list (pv 3)) (blkOk_by (by kernel_rfl)) (fun _ _ _ _ _ => pg_name (i := 12) nd rfl (by first | exact Or.inl rfl | exact Or.inr rfl)) (fun _ _ _ _ _ => pts_nil) (fun _ _ _ _ _ => (l_index (un65 hr) (pv 3) (pa_cons (pe_ix ix_list (pv 11) (pv 12) (fun _ _ => rfl)) pa_nil)))))) pa_nil)) (nomark _)) (pss_one (ps_ret pe_bl)) pss_nil)
    (pss_cons (ps_if (pt_cmpR (op_neD hr.units) (pe_lc (own := [("_law_rule", 13)]) (g := (gName 13)) (tt := (tTest (tOp (rIn K true) (tVar 13) (tMeth (He.ga K "Table") "rules" (sp_Trules K) [] E0 (tVar 6) tNil)))) rfl nd (pi_list (pv 8)) (blkOk_by (by kernel_rfl)) (fun _ _ _ _ _ => pg_name (i := 13) nd rfl (by first | exact Or.inl rfl | exact Or.inr rfl)) (fun _ _ _ _ _ => pts_one (pt_cmpR op_notIn_seq (pv 13) (o_meth0 T (m := "rules") (by decide +kernel) G_Trules (hr.mono (by decide)) passL (pv 6)) (by rfl))) (fun _ _ _ _ _ => (pv 13))) (pe_lst pa_nil) (nomark _)) (pss_one (ps_ret pe_bl)) pss_nil)
    (pss_cons (ps_asg (pe_op op_sub (c_len (T.free "len" (by decide +kernel)) (pv 3)) pe_int) (pg_sub (pv 6) (pe_tup (pa_cons pe_int (pa_cons pe_int pa_nil))) (o_set T G_Tsetitem (hr.mono (by decide)) passL)))
    (pss_one (ps_ret (pe_cmpR (op_eqD hr.units) (f_call T G_law_rows_of_table (hr.mono (by decide)) (T.glo "_law_rows_of_table" (by decide +kernel)) (pa_cons (pv 0) pa_nil)) (pv 1) (nomark _))))))))))))))))
end K28
end
section
namespace K28
open PySem PySem.Spec L2 PyProof.Rows
theorem w_law {P : Program} {w : World} {K : PySem.W.Frag} {mg : Str → Option Value} {base : Heap} (T : Txt P K mg) (hD : HasD K d_law_tried)
    (G_law_pen : Good P w K mg base 2 (He.ga K "_law_pen") ["_law_script"] (sp_law_pen K))
    (G_law_rows_drawn : Good P w K mg base 8 (He.ga K "_law_rows_drawn") ["_law_pen_here"] (sp_law_rows_drawn K))
    (G_law_table_of_rows : Good P w K mg base 12 (He.ga K "_law_table_of_rows") ["_law_rows"] (sp_law_table_of_rows K))
    (G_law_few : Good P w K mg base 4 (He.ga K "_law_few") ["_law_pen_here", "_law_items", "_law_span"] (sp_law_few K))
    (G_law_draw : Good P w K mg base 2 (He.ga K "_law_draw") ["_law_pen_here", "_law_span"] (sp_law_draw K))
    (G_law_closed_values : Good P w K mg base 4 (He.ga K "_law_closed_values") ["_law_rows", "_law_values"] (sp_law_closed_values K))
    (G_Tgenerated : Good P w K mg base 9 (mTab K "generated") ["self", "values"] (sp_Tgenerated K))
    (G_law_shuffled : Good P w K mg base 4 (He.ga K "_law_shuffled") ["_law_pen_here", "_law_items"] (sp_law_shuffled K))
    (G_law_pick : Good P w K mg base 4 (He.ga K "_law_pick") ["_law_pen_here", "_law_options"] (sp_law_pick K))
    (G_Tpart : Good P w K mg base 12 (mTab K "part") ["self", "values"] (sp_Tpart K))
    (G_Tsetitem : Good P w K mg base 9 (mTab K "__setitem__") ["self", "at", "worth"] (sp_Tsetitem K))
    {LAMT : List (Addr × Str)} {c Pt : Addr} (TB : LamX.TabB base mg c Pt) (hmT : (Pt, lamQ "law") ∈ LAMT) (hu : ∀ p ∈ LAMT, p.1 = Pt → p.2 = lamQ "law")
    (G_law_part_right : Good P w K mg base 22 (He.ga K "_law_part_right") ["_law_made", "_law_rows", "_law_some"] (sp_law_part_right K LAMT))
    {A : Around} (hg0 : A.guards = some [])
    {f : Addr} {outer : List Env} {s : Shared} {H : Hp} {E : XK} (hr : Room 27 (A.deeper (envOfC "law" (defScope s_law) s.heap.objs.size f (.ref c)))) :
    PSs (cxOf (L2.CX P w) P w K mg base n_law "law" (defScope s_law) f (.ref c) A outer s H E) (defBody s_law) (t_law K LAMT) := by
  have nd := sc_law.nd
  have hr10 := hu10 hr
  exact (pss_cons (ps_set (i := 1) nd rfl (Or.inr rfl) (f_call T G_law_pen (hr.mono (by decide)) (T.glo "_law_pen" (by decide +kernel)) (pa_cons (pv 0) pa_nil)))
    (pss_cons (ps_for (passes_of rfl) rfl (pi_range1 (by rfl) (T.free "range" (by decide +kernel)) (pa_cons pe_int pa_nil)) (pg_name (i := 2) nd rfl (Or.inl rfl))
    (pss_cons (ps_set (i := 3) nd rfl (Or.inr rfl) (f_call T G_law_rows_drawn (hr.mono (by decide)) (T.glo "_law_rows_drawn" (by decide +kernel)) (pa_cons (pv 1) pa_nil)))
    (pss_cons (ps_set (i := 4) nd rfl (Or.inr rfl) (f_call T G_law_table_of_rows (hr.mono (by decide)) (T.glo "_law_table_of_rows" (by decide +kernel)) (pa_cons (pv 3) pa_nil)))
    (pss_one (ps_for (passes_of rfl) rfl (pi_range1 (by rfl) (T.free "range" (by decide +kernel)) (pa_cons pe_int pa_nil)) (pg_name (i := 5) nd rfl (Or.inl rfl))
    (pss_cons (ps_set (i := 6) nd rfl (Or.inl rfl) (f_call T G_law_few (hr.mono (by decide)) (T.glo "_law_few" (by decide +kernel)) (pa_cons (pv 1) (pa_cons (pe_listRg rfl (by rfl) (T.free "list" (by decide +kernel)) (prg_1 (by rfl) (T.free "range" (by decide +kernel)) (c_len (T.free "len" (by decide +kernel)) (pv 3)))) (pa_cons (f_call T G_law_draw (hr.mono (by decide)) (T.glo "_law_draw" (by decide +kernel)) (pa_cons (pv 1) (pa_cons pe_int pa_nil))) pa_nil)))))
    (pss_cons (ps_set (i := 6) nd rfl (Or.inl rfl) (pe_op op_cat (pv 6) (pe_slice sl_list (pv 6) po_none (po_some (f_call T G_law_draw (hr.mono (by decide)) (T.glo "_law_draw" (by decide +kernel)) (pa_cons (pv 1) (pa_cons pe_int pa_nil)))))))
    (pss_cons (ps_par (i := 7) (j := 8) (by rfl) nd rfl rfl (by decide) rfl rfl (pa_cons (f_call T G_law_closed_values (hr.mono (by decide)) (T.glo "_law_closed_values" (by decide +kernel)) (pa_cons (pv 3) (pa_cons (pv 6) pa_nil))) (pa_cons (c_list (T.free "list" (by decide +kernel)) (pv 6)) pa_nil)) (by rfl))
    (pss_cons (ps_set (i := 9) nd rfl (Or.inl rfl) (o_meth T (m := "generated") (by decide +kernel) G_Tgenerated (hr.mono (by decide)) passL (pv 4) (pa_cons (pe_ifExp (pt_cmpR op_gt (f_call T G_law_draw (hr.mono (by decide)) (T.glo "_law_draw" (by decide +kernel)) (pa_cons (pv 1) (pa_cons pe_int pa_nil))) pe_int (nomark _)) (pv 8) (c_tuple (T.free "tuple" (by decide +kernel)) (pv 8))) pa_nil)))
    (pss_cons (ps_if (PW.pt (pw_or (pt_cmpR op_ne (pe_callB (call_repr_lst hg0 hr10) (by rfl) (T.free "repr" (by decide +kernel)) boot_repr (pa_cons (pv 9) pa_nil)) (pe_callB (call_repr_lst hg0 hr10) (by rfl) (T.free "repr" (by decide +kernel)) boot_repr (pa_cons (pv 7) pa_nil)) (nomark _)) (pw_or1 (pt_cmpR (op_neD hr.units) (pv 8) (pv 6) (nomark _))))) (pss_one (ps_ret pe_bl)) pss_nil)
    (pss_cons (ps_expr (l_append (pv 9) (pa_cons pe_int pa_nil)))
    (pss_cons (ps_if (PW.pt (pw_or (pt_not (pt_val (f_call T G_law_part_right (hr.mono (by decide)) (T.glo "_law_part_right" (by decide +kernel)) (pa_cons (pv 4) (pa_cons (pv 3) (pa_cons (pv 6) pa_nil)))))) (pw_or1 (pt_not (pt_val (f_call T G_law_part_right (hr.mono (by decide)) (T.glo "_law_part_right" (by decide +kernel)) (pa_cons (pv 4) (pa_cons (pv 3) (pa_cons (f_call T G_law_shuffled (hr.mono (by decide)) (T.glo "_law_shuffled" (by decide +kernel)) (pa_cons (pv 1) (pa_cons (pv 7) pa_nil))) pa_nil))))))))) (pss_one (ps_ret pe_bl)) pss_nil)
    (pss_cons (ps_par (i := 10) (j := 11) (by rfl) nd rfl rfl (by decide) rfl rfl (pa_cons (f_call T G_law_draw (hr.mono (by decide)) (T.glo "_law_draw" (by decide +kernel)) (pa_cons (pv 1) (pa_cons (pe_op op_add (c_len (T.free "len" (by decide +kernel)) (pv 6)) pe_int) pa_nil))) (pa_cons (f_call T G_law_pick (hr.mono (by decide)) (T.glo "_law_pick" (by decide +kernel)) (pa_cons (pv 1) (pa_cons (pe_lst (pa_cons (pe_un un_neg pe_int) (pa_cons (c_len (T.free "len" (by decide +kernel)) (pv 3)) (pa_cons pe_int (pa_cons (pe_op op_pow pe_int pe_int) pa_nil))))) pa_nil))) pa_nil)) (by rfl))
    (pss_cons (ps_set (i := 12) nd rfl (Or.inr rfl) (pe_op op_cat (pe_op op_cat (pe_slice sl_list (pv 6) po_none (po_some (pv 10))) (pe_lst (pa_cons (pv 11) (pa_cons (pe_un un_neg pe_int) pa_nil)))) (pe_slice sl_list (pv 6) (po_some (pv 10)) po_none)))
    (pss_cons (ps_if (pt_cmpR (op_neD hr.units) (f_lam (k := 25) (q0 := "law") (sc0 := defScope s_law) T hD TB cx_code cx_qual hmT hu hr (by rfl) (by rfl) (by decide +kernel) (by rfl) (by intros; rfl) fun _ _ _ _ _ _ _ hr => lam_gen T G_Tgenerated hr (by decide) rfl rfl rfl rfl) (pe_tup (pa_cons pe_str (pa_cons (pv 11) (pa_cons pe_bl pa_nil)))) (nomark _)) (pss_one (ps_ret pe_bl)) pss_nil)
    (pss_cons (ps_if (pt_cmpR (op_neD hr.units) (f_lam (k := 25) (q0 := "law") (sc0 := defScope s_law) T hD TB cx_code cx_qual hmT hu hr (by rfl) (by rfl) (by decide +kernel) (by rfl) (by intros; rfl) fun _ _ _ _ _ _ _ hr => lam_partT T G_Tpart hr (by decide) rfl rfl rfl rfl rfl) (pe_tup (pa_cons pe_str (pa_cons (pv 11) (pa_cons pe_bl pa_nil)))) (nomark _)) (pss_one (ps_ret pe_bl)) pss_nil)
    (pss_cons (ps_asg (pe_lc (own := [("_law_k", 17)]) (g := (gName 17)) (tt := tYes) rfl nd (pi_range1 (by rfl) (T.free "range" (by decide +kernel)) (pa_cons pe_int pa_nil)) (blkOk_by (by kernel_rfl)) (fun _ _ _ _ _ => pg_name (i := 17) nd rfl (by first | exact Or.inl rfl | exact Or.inr rfl)) (fun _ _ _ _ _ => pts_nil) (fun _ _ _ _ _ => (f_call T G_law_draw (hr.mono (by decide)) (T.glo "_law_draw" (by decide +kernel)) (pa_cons (pv 1) (pa_cons (c_len (T.free "len" (by decide +kernel)) (pv 3)) pa_nil))))) (pg_unl rfl (pgs_cons (pg_name (i := 13) nd rfl (Or.inl rfl)) (pgs_cons (pg_name (i := 14) nd rfl (Or.inl rfl)) (pgs_cons (pg_name (i := 15) nd rfl (Or.inl rfl)) pgs_nil)))))
    (pss_cons (ps_asg (pe_tup (pa_cons (pv 15) (pa_cons (pe_ix ix_list (pv 3) (pv 13) (fun _ _ => rfl)) pa_nil))) (pg_tup rfl (pgs_cons (pg_sub (pv 4) (pe_tup (pa_cons (pv 13) (pa_cons (pv 14) pa_nil))) (o_set T G_Tsetitem (hr.mono (by decide)) passL)) (pgs_cons (pg_name (i := 16) nd rfl (Or.inl rfl)) pgs_nil))))
    (pss_cons (ps_asg (pv 15) (pg_sub (pv 16) (pv 14) set_list))
    (pss_one (ps_if (PW.pt (pw_or (pt_cmpR (op_neD hr.units) (o_meth T (m := "generated") (by decide +kernel) G_Tgenerated (hr.mono (by decide)) passL (pv 4) (pa_cons (pv 6) pa_nil)) (f_call T G_law_closed_values (hr.mono (by decide)) (T.glo "_law_closed_values" (by decide +kernel)) (pa_cons (pv 3) (pa_cons (pv 6) pa_nil))) (nomark _)) (pw_or1 (pt_not (pt_val (f_call T G_law_part_right (hr.mono (by decide)) (T.glo "_law_part_right" (by decide +kernel)) (pa_cons (pv 4) (pa_cons (pv 3) (pa_cons (pv 6) pa_nil))))))))) (pss_one (ps_ret pe_bl)) pss_nil)))))))))))))))))))))
    (pss_one (ps_ret pe_bl))))
end K28
end
section
namespace K28
open PySem PySem.Spec L2 PyProof.Rows Evl
/-! ### data, told by the reading -/
mutual
theorem dp_ex {K : PySem.W.Frag} {H H' : Hp} (e : Ex H H') : ∀ {d : PyData} {v : V}, Dp K H v d → Dp K H' v d
  | _, _, .non => .non
  | _, _, .bl b => .bl b
  | _, _, .int i => .int i
  | _, _, .str x => .str x
  | _, _, .lst h a => .lst (ex_l e h) (dpAll_ex e a)
  | _, _, .tup h a => .tup (ex_t e h) (dpAll_ex e a)
theorem dpAll_ex {K : PySem.W.Frag} {H H' : Hp} (e : Ex H H') : ∀ {ds : List PyData} {vs : List V}, DpAll K H vs ds → DpAll K H' vs ds
  | _, _, .nil => .nil
  | _, _, .cons h a => .cons (dp_ex e h) (dpAll_ex e a)
end
/-- te's value has the data d -/
def EvDt (K : PySem.W.Frag) (te : TE) (σ : L2.St) (H : Hp) (d : PyData) : Prop := ∀ H1, Ex H H1 → ∀ Q : VK, (∀ x H2, Ex H1 H2 → Dp K H2 x d → Q x H2) → te σ H1 Q
section
variable {K : PySem.W.Frag} {σ : L2.St} {H : Hp} {ta tb te : TE} {d e : PyData}
theorem dt_val {x : V} (h : Ev te σ H x) (hd : Dp K H x d) : EvDt K te σ H d := fun H1 e1 Q q => h H1 e1 Q fun H2 e2 => q x H2 e2 (dp_ex (e1.trans e2) hd)
theorem dt_L {l : List Nat} (h : EvL te σ H (nI l)) : EvDt K te σ H (dI l) := fun H1 e1 Q q => h H1 e1 Q fun p H2 _ e2 hp => q _ H2 e2 (dp_nI (sq_of hp))
def dR (R : List (List Nat)) : PyData := .list (R.map dI)
theorem dp_rows {r : Addr} {as : List Addr} {R : List (List Nat)} (h : RowsAt H r as R) : Dp K H (.ref r) (dR R) := .lst (sq_of h.at_) (dpAll_refs as R h.len fun i a x ha hx => dp_nI (sq_of (h.row i a x ha hx)))
theorem dt_W {R : List (List Nat)} (h : EvW te σ H R) : EvDt K te σ H (dR R) := fun H1 e1 Q q => h H1 e1 Q fun p as H2 _ e2 hr => q _ H2 e2 (dp_rows hr)
theorem lay_dR : ∀ R : List (List Nat), PyData.canLayAll0 (R.map dI) = true
  | [] => rfl
  | l :: R => by
    show (PyData.canLay0 (dI l) && PyData.canLayAll0 (R.map dI)) = true
    rw [lay_dR R, lay_dI l]
    rfl
theorem dep_dR : ∀ R : List (List Nat), PyData.depthAll (R.map dI) ≤ 1
  | [] => Nat.zero_le _
  | l :: R => by
    show max (PyData.depth (dI l)) (PyData.depthAll (R.map dI)) ≤ 1
    rw [dep_dI l]
    have := dep_dR R
    omega
theorem shaped_dR (R : List (List Nat)) : SeqAt.shaped (dR R) = true := by
  unfold SeqAt.shaped
  show (PyData.canLayAll0 _ && decide (PyData.depthAll _ + 1 ≤ 64)) = true
  rw [lay_dR R, decide_eq_true (by have := dep_dR R; omega)]
  rfl
theorem same_data {d : PyData} (h : SeqAt.shaped d = true) : PyData.eqv d d = true := PySem.SeqAt.eqv_refl d (SeqAt.canLay_of_shaped h)
theorem ev_eqDt (h1 : EvDt K ta σ H d) (h2 : EvDt K tb σ H e) (s1 : SeqAt.shaped d = true) (s2 : SeqAt.shaped e = true) : Ev (tOp (rEqD K) ta tb) σ H (.bl (PyData.eqv d e)) := fun H1 e1 Q q =>
  h1 H1 e1 _ fun x H2 e2 hx => h2 H2 (e1.trans e2) _ fun y H3 e3 hy => ⟨d, e, dp_ex e3 hx, hy, s1, s2, q H3 (e2.trans e3)⟩
theorem ev_neDt (h1 : EvDt K ta σ H d) (h2 : EvDt K tb σ H e) (s1 : SeqAt.shaped d = true) (s2 : SeqAt.shaped e = true) : Ev (tOp (rNeD K) ta tb) σ H (.bl (!PyData.eqv d e)) := fun H1 e1 Q q =>
  h1 H1 e1 _ fun x H2 e2 hx => h2 H2 (e1.trans e2) _ fun y H3 e3 hy => ⟨d, e, dp_ex e3 hx, hy, s1, s2, q H3 (e2.trans e3)⟩
/-- the same data on both sides -/
theorem ev_eqS (h1 : EvDt K ta σ H d) (h2 : EvDt K tb σ H d) (s : SeqAt.shaped d = true) : Ev (tOp (rEqD K) ta tb) σ H (.bl true) := by
  have g := ev_eqDt h1 h2 s s
  rw [same_data s] at g
  exact g
theorem et_neS (h1 : EvDt K ta σ H d) (h2 : EvDt K tb σ H d) (s : SeqAt.shaped d = true) : EvT (tTest (tOp (rNeD K) ta tb)) σ H false := by
  have g := ev_neDt h1 h2 s s
  rw [same_data s] at g
  exact et_test g
end
/-! ### tables of code stay -/
theorem tabs_keep {LT : List (Addr × Str)} {H H' : Hp} (h : LamX.Tabs LT H) (k : ∀ b ps, H b = some (.tbl ps) → H' b = some (.tbl ps)) (k2 : ∀ b f, H b = some (.ext f) → H' b = some (.ext f)) : LamX.Tabs LT H' := fun p hp => by
  obtain ⟨ps, h1, h2, h3⟩ := h p hp
  refine ⟨ps, k _ _ h1, h2, fun pos cv hc => ?_⟩
  obtain ⟨c, e1, e2⟩ := h3 pos cv hc
  exact ⟨c, e1, k2 _ _ e2⟩
theorem tabs_fr {LT : List (Addr × Str)} {H H' : Hp} {S : Addr → Prop} (h : LamX.Tabs LT H) (e : Fr S H H') (k : ∀ a, S a → (∀ ps, H a ≠ some (.tbl ps)) ∧ ∀ f, H a ≠ some (.ext f)) : LamX.Tabs LT H' :=
  tabs_keep h (fun b ps hb => e b _ hb fun s => (k b s).1 ps hb) (fun b f hb => e b _ hb fun s => (k b s).2 f hb)
theorem tabs_upd {LT : List (Addr × Str)} {H : Hp} {a : Addr} {o : HO} {xs : List V} (h : LamX.Tabs LT H) (ha : H a = some (.lst xs)) : LamX.Tabs LT (upd H a o) :=
  tabs_keep h (fun b ps hb => by rw [upd_ne (fun z => by rw [z, ha] at hb; cases hb)]; exact hb) (fun b f hb => by rw [upd_ne (fun z => by rw [z, ha] at hb; cases hb)]; exact hb)
theorem exN_of {H H' : Hp} (e : Ex H H') : LamX.ExtN H H' := LamX.ExtN.of e
theorem exN_lst {H H' : Hp} {a : Addr} {xs : List V} (e : LamX.ExtN H H') (h : H a = some (.lst xs)) : H' a = some (.lst xs) := e a _ h fun ps z => by cases z
theorem exN_rows {H H' : Hp} {r : Addr} {as : List Addr} {R : List (List Nat)} (h : RowsAt H r as R) (e : LamX.ExtN H H') : RowsAt H' r as R := ⟨exN_lst e h.at_, h.len, fun i a x ha hx => exN_lst e (h.row i a x ha hx)⟩
theorem exN_tbl {K : PySem.W.Frag} {H H' : Hp} {t r : Addr} {n : Nat} {as : List Addr} {R : List (List Nat)} (h : TblAt K H t n r as R) (e : LamX.ExtN H H') : TblAt K H' t n r as R := by
  obtain ⟨⟨dx, hi⟩, h2, h3, h4, h5, h6⟩ := h
  exact ⟨⟨dx, e _ _ hi fun ps z => by cases z⟩, exN_rows h2 e, h3, h4, h5, h6⟩
end K28
end
section
namespace K28
open PySem PySem.Spec L2 PyProof.Rows Evl
section
variable {K : PySem.W.Frag} {σ : L2.St} {H : Hp} {te tl : TE}
/-- rows_of_table(..) -/
theorem ew_rowsT {t r : Addr} {as : List Addr} {R : List (List Nat)} {n : Nat} {ta : TA} (h : EvA ta σ H [.ref t]) (ht : TblAt K H t n r as R) : EvW (tCall (sp_law_rows_of_table K) [] E0 ta) σ H R := fun H1 e1 Q q =>
  h H1 e1 _ fun H2 e2 => ⟨t, r, as, R, n, rfl, ht.ex (e1.trans e2), fun H3 r' as' e3 nw hr => q r' as' H3 (nw.back e2) (e2.trans e3) hr⟩
/-- kept.index(x) -/
theorem ev_kidx {k : Addr} {ks : List Nat} {x : Nat} {tx : TE} (hk : H k = some (.lst (nI ks))) (hx : x ∈ ks) (h1 : Ev tl σ H (.ref k)) (h2 : Ev tx σ H (.int (x : Int))) : Ev (tBM K "list" (rIndexD K) tl (tCons tx tNil)) σ H (.int ((ks.idxOf x : Nat) : Int)) := fun H1 e1 Q q =>
  h1 H1 e1 _ fun H2 e2 => ⟨.inl ⟨rfl, _, sq_of ((e1.trans e2) _ _ hk)⟩, h2 H2 (e1.trans e2) _ fun H3 e3 => by
    obtain ⟨i1, i2⟩ := idx_first hx
    refine ⟨k, .int (x : Int), .int (x : Int), ks.map fun (n : Nat) => PyData.int (n : Int), ks.idxOf x, .int (x : Int), rfl, rfl, dp_nI (sq_of (((e1.trans e2).trans e3) _ _ hk)), .int _, shaped_dI ks, rfl, ?_, ?_, fun m z hm hz => ?_, q H3 (e2.trans e3)⟩
    · rw [List.getElem?_map, i1]
      rfl
    · show ((x : Int) == (x : Int)) = true
      simp
    · obtain ⟨y, hy, rfl⟩ := map_at hz
      have ne := i2 m y hm hy
      show ((y : Int) == (x : Int)) = false
      rw [beq_eq_false_iff_ne]
      omega⟩
end
/-- [[kept.index(line[b]) for b in kept] for line in lines] -/
theorem ew_part {K : PySem.W.Frag} {σ : L2.St} {H : Hp} {k ln r : Addr} {ks : List Nat} {R : List (List Nat)} {n i j ik : Nat} {as ls : List Addr} {tl tk : TE} (hr : RowsAt H r as R) (ok : TabOk n R) (hk : H k = some (.lst (nI ks))) (hlen : ks.length ≤ 100) (kin : ∀ x ∈ ks, x < n) (clo : Closed (opOf R) ks)
    (hln : H ln = some (.lst (ls.map V.ref))) (hll : ls.length = ks.length) (hls : ∀ (i : Nat) (x : Nat) (a : Addr), ks[i]? = some x → ls[i]? = some a → as[x]? = some a)
    (h1 : Ev tl σ H (.ref ln)) (hwi : ∀ x, wipe ((wipe σ [i]).set i (some x)) [i] = wipe σ [i]) (hwj : ∀ x y, wipe ((wipe ((wipe σ [i]).set i (some x)) [j]).set j (some y)) [j] = wipe ((wipe σ [i]).set i (some x)) [j])
    (h2 : ∀ (x : V) H1, Ev tk ((wipe σ [i]).set i (some x)) H1 (.ref k)) (h3 : ∀ (x y : V) H1, Ev tk ((wipe ((wipe σ [i]).set i (some x)) [j]).set j (some y)) H1 (.ref k))
    (h4 : ∀ (x y : V) H1, Ev (tVar i) ((wipe ((wipe σ [i]).set i (some x)) [j]).set j (some y)) H1 x) (h5 : ∀ (x y : V) H1, Ev (tVar j) ((wipe ((wipe σ [i]).set i (some x)) [j]).set j (some y)) H1 y) :
    EvW (tLc (iList K tl) (gName i) tYes (tLc (iList K tk) (gName j) tYes (tBM K "list" (rIndexD K) tk (tCons (tOp (rIxL K) (tVar i) (tVar j)) tNil)) [j]) [i]) σ H (partRows (opOf R) ks) := by
  refine ew_R (er_lcL (a := ln) h1 (sq_of hln) (by rw [List.length_map]; omega) (by unfold partRows; rw [List.length_map, List.length_map, List.length_map, hll]) hwi fun u v x H1 e1 hv hx => ?_)
  obtain ⟨a, ha, rfl⟩ := map_at hv
  obtain ⟨x0, hx0, rfl⟩ := part_row hx
  have hx0n := kin x0 (List.mem_of_getElem? hx0)
  have hrow := (hr.ex e1).row x0 a _ (hls u x0 a hx0 ha) (ok.row_at hx0n).1
  refine el_map (a := k) (h2 _ H1) (sq_of (e1 _ _ hk)) (by rw [nI_len]; omega) (by rw [nI_len, nI_len, List.length_map]) (hwj _) fun m v y H2 e2 hv hy => ?_
  obtain ⟨b, hb, rfl⟩ := nI_of hv
  obtain ⟨z, hz, rfl⟩ := nI_of hy
  obtain ⟨b2, hb2, rfl⟩ := map_at hz
  rw [hb] at hb2
  cases hb2
  have hbn := kin b (List.mem_of_getElem? hb)
  exact ev_kidx ((e1.trans e2) _ _ hk) (clo x0 (List.mem_of_getElem? hx0) b (List.mem_of_getElem? hb)) (h3 _ _ H2) (ev_ixL (h4 _ _ H2) (h5 _ _ H2) (sq_of (e2 _ _ hrow)) (nI_at (ok.at_ hx0n hbn)))
theorem open_nil {op : Nat → Nat → Nat} {a b : Nat} (h : FirstOpen op [] a b) : False := h.not fun x hx => by cases hx
theorem nI_iI {l l' : List Nat} (h : nI l' = iI (l.map fun (n : Nat) => (n : Int))) : l' = l := by
  rw [← nI_map] at h
  exact nI_inj h
/-- the part, as the lambda or the law asks for it: E told -/
theorem part_call {K : PySem.W.Frag} {t v r : Addr} {as : List Addr} {R : List (List Nat)} {n : Nat} {l : List Nat} {H : Hp} {Q : VK} {E : XK} (ht : TblAt K H t n r as R) (hv : SqLT K H v (nI l)) (hl : ∀ x ∈ l, x < n)
    (h1 : keptOf n l = [] → Bad K "BadSize" [("size", .int 0)] H E) (h2 : ∀ a b, FirstOpen (opOf R) (keptOf n l) a b → Bad K "NotClosed" [("right", .int (b : Int)), ("left", .int (a : Int))] H E)
    (h3 : keptOf n l ≠ [] → Closed (opOf R) (keptOf n l) → ∀ H' t' r' as', Ex H H' → H t' = none → newAll H r' as' → TblAt K H' t' (keptOf n l).length r' as' (partRows (opOf R) (keptOf n l)) → Q (.ref t') H') : sp_Tpart K [.ref t, .ref v] H Q E :=
  ⟨t, v, r, as, R, n, l.map fun (n : Nat) => (n : Int), rfl, ht, by rw [← nI_map]; exact hv, fun l' hl' _ => by
    rw [nI_iI hl']
    exact ⟨h1, h2, h3⟩, fun d b => (no_bad hl b).elim⟩
end K28
end
section
namespace K28
open PySem PySem.Spec L2 PyProof.Rows Evl
section
variable {K : PySem.W.Frag} {σ : L2.St} {H : Hp} {te tl : TE}
/-- [e for x in a new list] -/
theorem el_mapN {xs ys : List V} {j : Nat} {vs : List Nat} (h : EvL tl σ H xs) (hz : xs.length ≤ 40000) (hl : ys.length = xs.length) (hw : ∀ x, wipe ((wipe σ vs).set j (some x)) vs = wipe σ vs)
    (he : ∀ (i : Nat) (v y : V) H1, Ex H H1 → xs[i]? = some v → ys[i]? = some y → Ev te ((wipe σ vs).set j (some v)) H1 y) : EvL (tLc (iList K tl) (gName j) tYes te vs) σ H ys := by
  have g := el_lcNL (K := K) (t := tYes) (te := te) (fun _ => true) (fun i => ys.getD i .non) h hz hw (fun i x H1 _ _ => fun H2 _ Q q => q H2 (Ex.refl H2)) (fun i v H1 e hv _ => by
    have hi : i < ys.length := by
      rw [hl]
      exact (List.getElem?_eq_some_iff.mp hv).1
    have hy : ys[i]? = some ys[i] := List.getElem?_eq_getElem hi
    have e2 : ys.getD i .non = ys[i] := by rw [List.getD_eq_getElem?_getD, hy]; rfl
    rw [e2]
    exact he i v _ H1 e hv hy)
  rw [given_yes_all, range_map hl fun i y hy => by rw [List.getD_eq_getElem?_getD, hy]; rfl] at g
  exact g
theorem ev_sortedL {F : List Nat} (hF : F.length < 64) (h : EvL te σ H (nI F)) :
    ∀ H1, Ex H H1 → ∀ Q : VK, (∀ p H2 L, H1 p = none → Ex H1 H2 → H2 p = some (.lst (nI L)) → L.Perm F → L.Pairwise (· ≤ ·) → Q (.ref p) H2) → tCB (rSorted K) (tCons te tNil) σ H1 Q := fun H1 e Q q => by
  refine h H1 e _ fun a H2 na e2 ha => ⟨a, F.map fun (n : Nat) => (n : Int), rfl, sq_of (by
    rw [nI_map] at ha
    exact ha), by rw [List.length_map]; exact hF, fun ns p hp hs np => ?_⟩
  obtain ⟨L, eL, hL, sL⟩ := sort_nat hp hs
  refine q p _ L (fresh_back e2 np) (e2.trans (Ex.new np)) ?_ hL sL
  rw [← eL]
  exact upd_same
theorem q_sortedL {F : List Nat} {i : Nat} {D : Ends} {tz : TS} (hF : F.length < 64) (h : EvL te σ H (nI F)) (k : ∀ p H2 L, H p = none → Ex H H2 → H2 p = some (.lst (nI L)) → L.Perm F → L.Pairwise (· ≤ ·) → tz D (σ.set i (some (.ref p))) H2) :
    tSeq (tAsg (tCB (rSorted K) (tCons te tNil)) (gName i)) tz D σ H := ev_sortedL hF h H (Ex.refl H) _ k
/-- found = _law_tried(lambda: made.part(handed)) -/
theorem q_tried {LT : List (Addr × Str)} {t : XK → TE} {i : Nat} {D : Ends} {tz : TS} (hT : LamX.Tabs LT H) (k : ∀ H1, LamX.ExtN H H1 → LamX.Tabs LT H1 → ∀ Q : VK, Q = (fun v H2 => tz D (σ.set i (some v)) H2) → t (tried_E K Q) σ H1 Q) :
    tSeq (tAsg (LamX.tLam LT (tried_TT K) t) (gName i)) tz D σ H := ⟨hT, fun H1 e1 T1 => k H1 e1 T1 _ rfl⟩
end
/-- what is due -/
theorem tup_data {K : PySem.W.Frag} {H : Hp} {p : Addr} {a b : Int} (h : H p = some (.tup [.str "open", .int a, .int b, .bl true])) : Dp K H (.ref p) (.tuple [.str "open", .int a, .int b, .bool true]) := .tup (st_of h) (.cons (.str _) (.cons (.int _) (.cons (.int _) (.cons (.bl _) .nil))))
theorem tup_data2 {K : PySem.W.Frag} {H : Hp} {p : Addr} {s : Str} {a : Int} (h : H p = some (.tup [.str s, .int a, .bl true])) : Dp K H (.ref p) (.tuple [.str s, .int a, .bool true]) := .tup (st_of h) (.cons (.str _) (.cons (.int _) (.cons (.bl _) .nil)))
theorem shaped_open (a b : Int) : SeqAt.shaped (.tuple [.str "open", .int a, .int b, .bool true]) = true := by
  have h : PyData.strOk "open" = true := by decide +kernel
  show (PyData.strOk "open" && true && true) = true
  rw [h]
  rfl
theorem shaped_size (a : Int) : SeqAt.shaped (.tuple [.str "size", .int a, .bool true]) = true := by
  have h : PyData.strOk "size" = true := by decide +kernel
  show (PyData.strOk "size" && true && true) = true
  rw [h]
  rfl
theorem shaped_value (a : Int) : SeqAt.shaped (.tuple [.str "value", .int a, .bool true]) = true := by
  have h : PyData.strOk "value" = true := by decide +kernel
  show (PyData.strOk "value" && true && true) = true
  rw [h]
  rfl
end K28
end
section
namespace K28
open PySem PySem.Spec L2 PyProof.Rows Evl
section
variable {K : PySem.W.Frag} {σ : L2.St} {H : Hp} {D : Ends} {tz : TS}
/-- handed back after an exception -/
theorem exc_tail {h v p d : Addr} {l : List Nat} {e : PyData} (h5 : σ[5]? = some (some (.ref h))) (h2 : σ[2]? = some (some (.ref v))) (h6 : σ[6]? = some (some (.ref p))) (h4 : σ[4]? = some (some (.ref d))) (hh : H h = some (.lst (nI l))) (hv : H v = some (.lst (nI l))) (hp : Dp K H (.ref p) e) (hd : Dp K H (.ref d) e)
    (s : SeqAt.shaped e = true) (k : ∀ H1, Ex H H1 → D.rt (.bl true) H1) :
    tSeq (tIfS (tOr (tTest (tOp (rNeD K) (tVar 5) (tVar 2))) (tTest (tOp rNotNK (tVar 4) (tC .non)))) (tRet (tAndV (tOp (rEqD K) (tVar 5) (tVar 2)) (tOp (rEqD K) (tVar 6) (tVar 4)))) tNext) tz D σ H := by
  refine q_when (b := true) (et_is (et_or (et_neS (d := dI l) (dt_val (ev_var h5) (dp_nI (sq_of hh))) (dt_val (ev_var h2) (dp_nI (sq_of hv))) (shaped_dI l)) fun _ => et_notN (ev_var h4)) (by rfl)) (fun _ H1 e1 => ?_) (fun z => nomatch z)
  exact s_ret (ev_andV (ev_eqS (d := dI l) (dt_val (ev_var h5) (dp_nI (sq_of (e1 _ _ hh)))) (dt_val (ev_var h2) (dp_nI (sq_of (e1 _ _ hv)))) (shaped_dI l)) fun _ => ev_eqS (d := e) (dt_val (ev_var h6) (dp_ex e1 hp)) (dt_val (ev_var h4) (dp_ex e1 hd)) s) fun H2 e2 => k H2 (e1.trans e2)
/-- rows_of_table(made.part(tuple(some))) -/
theorem dt_rowsPart {t v r : Addr} {as : List Addr} {R : List (List Nat)} {n : Nat} {l : List Nat} (h0 : σ[0]? = some (some (.ref t))) (h2 : σ[2]? = some (some (.ref v))) (ht : TblAt K H t n r as R) (hv : H v = some (.lst (nI l))) (hl : ∀ x ∈ l, x < n) (ne : keptOf n l ≠ []) (clo : Closed (opOf R) (keptOf n l)) :
    EvDt K (tCall (sp_law_rows_of_table K) [] E0 (tCons (tMeth (He.ga K "Table") "part" (sp_Tpart K) [] E0 (tVar 0) (tCons (tCB (rTupS K) (tCons (tVar 2) tNil)) tNil)) tNil)) σ H (dR (partRows (opOf R) (keptOf n l))) := fun H1 e1 Q q => by
  have t1 := ht.ex e1
  obtain ⟨dx, hi⟩ := t1.ins
  refine ⟨.ref t, h0, t, dx, _, rfl, hi, rfl, .ref v, h2, v, nI l, rfl, .inl ⟨sq_of (e1 _ _ hv), fun tp np => ?_⟩⟩
  simp only [tNil, List.cons_append, List.nil_append]
  refine part_call (t1.ex (Ex.new np)) (.inr (st_of upd_same)) hl (fun z => absurd z ne) (fun a b z => (z.not clo).elim) fun _ _ H2 t2 r2 as2 e2 _ _ h2t => ?_
  exact ⟨t2, r2, as2, _, _, rfl, h2t, fun H3 r3 as3 e3 _ h3 => q _ H3 (((Ex.new np).trans e2).trans e3) (dp_rows h3)⟩
theorem inV_rule {k : Nat} {kk : List Nat} (h : k ∈ kk) : inV (.str (ruleS k)) (kk.map fun k => V.str (ruleS k)) = true := by
  induction kk with
  | nil => cases h
  | cons x kk ih =>
    show (eqV (.str (ruleS x)) (.str (ruleS k)) || inV (.str (ruleS k)) (kk.map fun k => V.str (ruleS k))) = true
    rcases List.mem_cons.mp h with e | h
    · subst e
      have : eqV (.str (ruleS k)) (.str (ruleS k)) = true := by
        show (ruleS k == ruleS k) = true
        simp
      rw [this]
      rfl
    · rw [ih h, Bool.or_true]
theorem rules_flat (kk : List Nat) : (kk.map fun k => V.str (ruleS k)).all flatV = true := by
  rw [List.all_eq_true]
  intro v hv
  obtain ⟨x, _, rfl⟩ := List.mem_map.mp hv
  rfl
/-- [x for x in xs if ..], none passes -/
theorem el_none {a : Addr} {xs : List V} {tl te : TE} {t : TT} {j : Nat} {vs : List Nat} (h : Ev tl σ H (.ref a)) (hx : SqL K H a xs) (hw : ∀ x, wipe ((wipe σ vs).set j (some x)) vs = wipe σ vs) (ht : ∀ (i : Nat) (x : V) H1, Ex H H1 → xs[i]? = some x → EvT t ((wipe σ vs).set j (some x)) H1 false) :
    EvL (tLc (iList K tl) (gName j) t te vs) σ H (nI []) := fun H0 e Q q => h H0 e _ fun H1 e1 => ⟨a, rfl, ⟨xs, ex_l (e.trans e1) hx⟩, fun Dl hD =>
  lc_list (xs := xs) (fun _ H' => Ex H1 H' ∧ H1 Dl = none ∧ H' Dl = some (.lst [])) ⟨Ex.new hD, hD, upd_same⟩ (fun i H' _ p => ex_l ((e.trans e1).trans p.1) hx) (fun i x H' hi p => ⟨hw x, ht i x H1 (e.trans e1) hi H' p.1 _ fun H2 e2 => by
    show (if false = true then _ else _)
    rw [if_neg (by decide)]
    exact ⟨p.1.trans e2, p.2.1, e2 _ _ p.2.2⟩⟩) (fun H' p => q Dl H' (fresh_back e1 p.2.1) (e1.trans p.1) p.2.2)⟩
/-- rows_text(..) -/
theorem ev_rowsText {te : TE} {R : List (List Nat)} {n : Nat} (h : EvW te σ H R) (hn : n ≤ 7) (ok : TabOk n R) : Ev (tCall (sp_law_rows_text K) [] E0 (tCons te tNil)) σ H (.str (rowsText R)) := fun H1 e Q q =>
  h H1 e _ fun p as H2 _ e2 hr => ⟨p, as, R, n, rfl, hn, hr, ok, fun H3 e3 => q H3 (e2.trans e3)⟩
/-- no rule of whole lacks in found.rules() -/
theorem el_noRules {t r w : Addr} {as : List Addr} {R : List (List Nat)} {n j i6 i8 : Nat} {kk : List Nat} (h6 : ∀ x, ((wipe σ [j]).set j (some x))[i6]? = some (some (.ref t))) (h8 : σ[i8]? = some (some (.ref w))) (hj : ∀ x : V, ((wipe σ [j]).set j (some x))[j]? = some (some x)) (ht : TblAt K H t n r as R) (hw : H w = some (.lst (kk.map fun k => V.str (ruleS k)))) (hk9 : ∀ k ∈ kk, k < 9)
    (hkept : ∀ k ∈ kk, Kept (opOf R) n k) (hwi : ∀ x, wipe ((wipe σ [j]).set j (some x)) [j] = wipe σ [j]) :
    EvL (tLc (iList K (tVar i8)) (gName j) (tTest (tOp (rIn K true) (tVar j) (tMeth (He.ga K "Table") "rules" (sp_Trules K) [] E0 (tVar i6) tNil))) (tVar j) [j]) σ H (nI []) := by
  refine el_none (a := w) (xs := kk.map fun k => V.str (ruleS k)) (ev_var h8) (sq_of hw) hwi fun i x H1 e1 hx => ?_
  · obtain ⟨k, hk, rfl⟩ := map_at hx
    have km := List.mem_of_getElem? hk
    intro H2 e2 Q q
    have t2 := ht.ex (e1.trans e2)
    obtain ⟨dx, hi⟩ := t2.ins
    refine ⟨.str (ruleS k), hj _, .ref t, h6 _, t, dx, _, rfl, hi, rfl, ?_⟩
    refine ⟨t, r, as, R, n, rfl, t2, fun H3 p k2 e3 np hp a1 a2 => ?_⟩
    refine (rv_niL (K := K) (sq_of hp) rfl (rules_flat k2)) H3 (Ex.refl _) _ fun H4 e4 => ⟨_, rfl, ?_⟩
    rw [inV_rule ((a2 k (hk9 k km)).mpr (hkept k km))]
    exact q H4 (e3.trans e4)
end
end K28
end
section
namespace K28
open PySem PySem.Spec L2 PyProof.Rows Evl
section
variable {K : PySem.W.Frag} {σ : L2.St} {H : Hp} {D : Ends} {tz : TS}
/-- due = ('size', 0, True) if kept == [] else open_pair(rows, kept) -/
theorem q_due {k r : Addr} {ks : List Nat} {as : List Addr} {R : List (List Nat)} {n : Nat} (h3 : σ[3]? = some (some (.ref k))) (h1 : σ[1]? = some (some (.ref r))) (hk : H k = some (.lst (nI ks))) (hr : RowsAt H r as R) (ok : TabOk n R) (kin : ∀ x ∈ ks, x < n)
    (c1 : ks = [] → ∀ p H1, H p = none → Ex H H1 → H1 p = some (.tup [.str "size", .int 0, .bl true]) → tz D (σ.set 4 (some (.ref p))) H1)
    (c2 : ks ≠ [] → ∀ a b, FirstOpen (opOf R) ks a b → ∀ p H1, H p = none → Ex H H1 → H1 p = some (.tup [.str "open", .int (a : Int), .int (b : Int), .bl true]) → tz D (σ.set 4 (some (.ref p))) H1)
    (c3 : ks ≠ [] → Closed (opOf R) ks → ∀ H1, Ex H H1 → tz D (σ.set 4 (some .non)) H1) :
    tSeq (tAsg (tIf (tTest (tOp (rEqD K) (tVar 3) (tLst tNil))) (tTup (tCons (tC (.str "size")) (tCons (tC (.int 0)) (tCons (tC (.bl true)) tNil)))) (tCall (sp_law_open_pair K) [] E0 (tCons (tVar 1) (tCons (tVar 3) tNil)))) (gName 4)) tz D σ H := by
  refine (et_eqNil (K := K) hk (ev_var h3) : EvT _ σ H _) H (Ex.refl H) _ fun H1 e1 => ?_
  show (if decide (ks = []) = true then _ else _)
  split
  · rename_i hb
    refine (eu_tup (ea_cons ev_c (ea_cons ev_c (ea_cons ev_c ea_nil))) (by show 3 ≤ 100000; decide) : EvU _ σ H1 _) H1 (Ex.refl _) _ fun p H2 np e2 hp => c1 (of_decide_eq_true hb) p H2 (fresh_back e1 np) (e1.trans e2) hp
  · rename_i hb
    have ne : ks ≠ [] := fun z => hb (decide_eq_true z)
    refine ⟨.ref r, h1, .ref k, h3, r, k, as, R, n, ks, rfl, hr.ex e1, ok, e1 _ _ hk, kin, fun clo H2 e2 => c3 ne clo H2 (e1.trans e2), fun a b fo H2 p e2 np hp => c2 ne a b fo p H2 (fresh_back e1 np) (e1.trans e2) hp⟩
end
theorem r_law_part_right {K : PySem.W.Frag} {LT : List (Addr × Str)} : ∀ vs H Q E, sp_law_part_right K LT vs H Q E → t_law_part_right K LT (EndsK Q) (L2.start n_law_part_right vs) H := by
  rintro vs H Q E ⟨t, r, v, rt, as, ast, R, n, l, rfl, hT, ht, hr, hv, hl20, hlt, q⟩
  have hn := ht.sm
  have ok := ht.ok
  have cp : EvL (tLc (iList K (tCall (sp_law_once K) [] E0 (tCons (tVar 2) tNil))) (gName 9) tYes (tCB rInt1 (tCons (tVar 9) tNil)) [9]) (L2.start n_law_part_right [.ref t, .ref r, .ref v]) H (nI (once l)) := by
    refine el_mapN (xs := nI (once l)) (el_callL (ea_cons (ev_var rfl) ea_nil) fun H1 e Q2 q2 => ⟨v, l, rfl, e _ _ hv, by omega, fun H' p e2 np hp => q2 p H' np e2 hp⟩) (by rw [nI_len]; have := once_len l; omega) rfl (fun _ => rfl) fun i v y H2 e2 hv hy => ?_
    rw [hv] at hy
    cases hy
    obtain ⟨z, hz, rfl⟩ := nI_of hv
    exact ev_int1 (ev_var rfl)
  refine q_sortedL (by have := once_len l; omega) cp fun k H1 L nk e1 hk perm srt => ?_
  have eL := kept_sorted hlt perm srt
  subst eL
  have klen : (keptOf n l).length ≤ n := nodup_len (up_nodup (kept_up n l)) fun x hx => (kept_mem.mp hx).1
  have kin : ∀ x ∈ keptOf n l, x < n := fun x hx => (kept_mem.mp hx).1
  refine q_due (k := k) (r := r) rfl rfl hk (hr.ex e1) ok kin (fun kn d H2 nd e2 hd => ?_) (fun kn a b fo d H2 nd e2 hd => ?_) (fun kn clo H2 e2 => ?_)
  · have e12 := e1.trans e2
    refine q_asgL (el_list (ev_var rfl) (sq_of (e12 _ _ hv))) fun h H3 nh e3 hh => ?_
    have e13 := e12.trans e3
    refine q_tried (hT.ext e13) fun H5 eN T5 Q2 hQ => ?_
    have ht5 := exN_tbl (ht.ex e13) eN
    have hh5 := exN_lst eN hh
    have hv5 := exN_lst eN (e13 _ _ hv)
    have hd5 : H5 d = some (.tup [.str "size", .int 0, .bl true]) := eN d _ (e3 _ _ hd) fun ps z => by cases z
    obtain ⟨dx, hi⟩ := ht5.ins
    refine ⟨.ref t, rfl, t, dx, _, rfl, hi, rfl, .ref h, rfl, ?_⟩
    simp only [tNil, List.cons_append, List.nil_append]
    refine part_call ht5 (.inl (sq_of hh5)) hlt (fun _ H6 dd e6 hdd => ?_) (fun a b fo => by rw [kn] at fo; exact (open_nil fo).elim) (fun z => absurd kn z)
    refine .inr (.inl ⟨dd, .int 0, rfl, rfl, hdd, fun p np => ?_⟩)
    rw [hQ]
    have e7 : Ex H5 (upd H6 p (.tup [.str "size", .int 0, .bl true])) := e6.trans (Ex.new np)
    exact exc_tail (h := h) (v := v) (p := p) (d := d) rfl rfl rfl rfl (e7 _ _ hh5) (e7 _ _ hv5) (tup_data2 upd_same) (tup_data2 (e7 _ _ hd5)) (shaped_size 0) fun H8 e8 => q H8 ((exN_of e13).trans (eN.trans (exN_of (e7.trans e8)))) (T5.ext (e7.trans e8))
  · have e12 := e1.trans e2
    refine q_asgL (el_list (ev_var rfl) (sq_of (e12 _ _ hv))) fun h H3 nh e3 hh => ?_
    have e13 := e12.trans e3
    refine q_tried (hT.ext e13) fun H5 eN T5 Q2 hQ => ?_
    have ht5 := exN_tbl (ht.ex e13) eN
    have hh5 := exN_lst eN hh
    have hv5 := exN_lst eN (e13 _ _ hv)
    have hd5 : H5 d = some (.tup [.str "open", .int (a : Int), .int (b : Int), .bl true]) := eN d _ (e3 _ _ hd) fun ps z => by cases z
    obtain ⟨dx, hi⟩ := ht5.ins
    refine ⟨.ref t, rfl, t, dx, _, rfl, hi, rfl, .ref h, rfl, ?_⟩
    simp only [tNil, List.cons_append, List.nil_append]
    refine part_call ht5 (.inl (sq_of hh5)) hlt (fun z => absurd z kn) (fun a' b' fo' H6 dd e6 hdd => ?_) (fun _ clo => (fo.not clo).elim)
    obtain ⟨rfl, rfl⟩ := fo'.unique fo
    refine .inr (.inr ⟨dd, .int (a' : Int), .int (b' : Int), rfl, rfl, hdd, fun p np => ?_⟩)
    rw [hQ]
    have e7 : Ex H5 (upd H6 p (.tup [.str "open", .int (a' : Int), .int (b' : Int), .bl true])) := e6.trans (Ex.new np)
    exact exc_tail (h := h) (v := v) (p := p) (d := d) rfl rfl rfl rfl (e7 _ _ hh5) (e7 _ _ hv5) (tup_data upd_same) (tup_data (e7 _ _ hd5)) (shaped_open _ _) fun H8 e8 => q H8 ((exN_of e13).trans (eN.trans (exN_of (e7.trans e8)))) (T5.ext (e7.trans e8))
  · have e12 := e1.trans e2
    have m1 : 1 ≤ (keptOf n l).length := by
      cases hks : keptOf n l with
      | nil => exact absurd hks kn
      | cons x ks => exact Nat.succ_le_succ (Nat.zero_le _)
    refine q_asgL (el_list (ev_var rfl) (sq_of (e12 _ _ hv))) fun h H3 nh e3 hh => ?_
    have e13 := e12.trans e3
    refine q_tried (hT.ext e13) fun H5 eN T5 Q2 hQ => ?_
    have ht5 := exN_tbl (ht.ex e13) eN
    have hr5 := exN_rows (hr.ex e13) eN
    have hh5 := exN_lst eN hh
    have hv5 := exN_lst eN (e13 _ _ hv)
    have hk5 := exN_lst eN ((e2.trans e3) _ _ hk)
    have eN5 : LamX.ExtN H H5 := (exN_of e13).trans eN
    obtain ⟨dx, hi⟩ := ht5.ins
    refine ⟨.ref t, rfl, t, dx, _, rfl, hi, rfl, .ref h, rfl, ?_⟩
    simp only [tNil, List.cons_append, List.nil_append]
    refine part_call ht5 (.inl (sq_of hh5)) hlt (fun z => absurd z kn) (fun a b fo => (fo.not clo).elim) (fun _ _ H6 t' r' as' e6 nt' nw' ht' => ?_)
    rw [hQ]
    have hv6 := e6 _ _ hv5
    have hr6 := hr5.ex e6
    refine q_when (b := false) (et_is (et_or (et_neS (d := dI l) (dt_val (ev_var rfl) (dp_nI (sq_of (e6 _ _ hh5)))) (dt_val (ev_var rfl) (dp_nI (sq_of hv6))) (shaped_dI l)) fun _ => et_notN (ev_var rfl)) (by rfl)) (fun z => nomatch z) (fun _ H7 e7 => ?_)
    have e57 := e6.trans e7
    refine q_when (b := false) (et_neS (d := dR (partRows (opOf R) (keptOf n l))) (dt_rowsPart rfl rfl (ht5.ex e57) (e57 _ _ hv5) hlt kn clo) (dt_W (ew_rowsT (ea_cons (ev_var rfl) ea_nil) (ht'.ex e7))) (shaped_dR _)) (fun z => nomatch z) (fun _ H8 e8 => ?_)
    have e58 := e57.trans e8
    have asx : ∀ x, x < n → as[x]? = some (as.getD x 0) := fun x hx => by
      obtain ⟨y, hy, _⟩ := hr.ref ok hx
      rw [List.getD_eq_getElem?_getD, hy]
      rfl
    refine q_asgL (xs := ((keptOf n l).map fun x => as.getD x 0).map V.ref) (el_map (a := k) (xs := nI (keptOf n l)) (ev_var rfl) (sq_of (e58 _ _ hk5)) (by rw [nI_len]; omega) (by rw [nI_len, List.length_map, List.length_map]) (fun _ => rfl) fun i u y H9 e9 hu hy => ?_) fun ln H9 nln e9 hln => ?_
    · obtain ⟨x, hx, rfl⟩ := nI_of hu
      obtain ⟨z, hz, rfl⟩ := map_at hy
      obtain ⟨w, hw, rfl⟩ := map_at hz
      rw [hx] at hw
      cases hw
      exact ev_row (hr5.ex (e58.trans e9)) ok (ev_var rfl) (ev_var rfl) (asx x (kin x (List.mem_of_getElem? hx)))
    have e59 := e58.trans e9
    have lls : ∀ (i : Nat) (x : Nat) (a : Addr), (keptOf n l)[i]? = some x → ((keptOf n l).map fun x => as.getD x 0)[i]? = some a → as[x]? = some a := fun i x a hx ha => by
      obtain ⟨w, hw, rfl⟩ := map_at ha
      rw [hx] at hw
      cases hw
      exact asx x (kin x (List.mem_of_getElem? hx))
    have hm7 : (keptOf n l).length ≤ 7 := by omega
    have ok2 : TabOk (keptOf n l).length (partRows (opOf R) (keptOf n l)) := part_ok clo
    have cmp : ∀ (w8 : Option V) (H10 : Hp), Ex H9 H10 → EvW (tLc (iList K (tVar 7)) (gName 11) tYes (tLc (iList K (tVar 3)) (gName 12) tYes (tBM K "list" (rIndexD K) (tVar 3) (tCons (tOp (rIxL K) (tVar 11) (tVar 12)) tNil)) [12]) [11]) [some (.ref t), some (.ref r), some (.ref v), some (.ref k), some .non, some (.ref h), some (.ref t'), some (.ref ln), w8, none, none, none, none, none] H10 (partRows (opOf R) (keptOf n l)) := fun w8 H10 e10 =>
      ew_part (ik := 0) (k := k) (ln := ln) (hr5.ex (e59.trans e10)) ok ((e59.trans e10) _ _ hk5) (by omega) kin clo (e10 _ _ hln) (List.length_map ..) lls (ev_var rfl) (fun _ => rfl) (fun _ _ => rfl) (fun _ _ => ev_var rfl) (fun _ _ _ => ev_var rfl) (fun _ _ _ => ev_var rfl) (fun _ _ _ => ev_var rfl)
    have ht9 : TblAt K H9 t' (keptOf n l).length r' as' (partRows (opOf R) (keptOf n l)) := ht'.ex ((e7.trans e8).trans e9)
    refine q_when (b := false) (et_neS (d := dR (partRows (opOf R) (keptOf n l))) (dt_W (ew_rowsT (ea_cons (ev_var rfl) ea_nil) ht9)) (dt_W (cmp none H9 (Ex.refl _))) (shaped_dR _)) (fun z => nomatch z) (fun _ H10 e10 => ?_)
    refine q_as ⟨.ref r, rfl, r, as, R, n, rfl, hn, hr5.ex (e59.trans e10), ok, fun H11 wp kk e11 nwp hwp hk9 hkk => ?_⟩
    have e911 := e10.trans e11
    have ht11 := ht9.ex e911
    have str1 : Ev (tCB (rOwnStr (He.ga K "Table") (sp_Tstr K) E0) (tCons (tVar 6) tNil)) [some (.ref t), some (.ref r), some (.ref v), some (.ref k), some .non, some (.ref h), some (.ref t'), some (.ref ln), some (.ref wp), none, none, none, none, none] H11 (.str (rowsText (partRows (opOf R) (keptOf n l)))) := fun J1 f1 Q1 q1 => by
      have h1 := ht11.ex f1
      obtain ⟨dx1, hi1⟩ := h1.ins
      exact ⟨.ref t', rfl, t', dx1, _, rfl, hi1, t', r', as', _, _, rfl, h1, fun J2 f2 => ⟨_, rfl, q1 J2 f2⟩⟩
    have str2 : Ev (tCall (sp_law_rows_text K) [] E0 (tCons (tLc (iList K (tVar 7)) (gName 11) tYes (tLc (iList K (tVar 3)) (gName 12) tYes (tBM K "list" (rIndexD K) (tVar 3) (tCons (tOp (rIxL K) (tVar 11) (tVar 12)) tNil)) [12]) [11]) tNil)) [some (.ref t), some (.ref r), some (.ref v), some (.ref k), some .non, some (.ref h), some (.ref t'), some (.ref ln), some (.ref wp), none, none, none, none, none] H11 (.str (rowsText (partRows (opOf R) (keptOf n l)))) :=
      ev_rowsText (cmp (some (.ref wp)) H11 e911) hm7 ok2
    refine q_when (b := false) (et_is (et_ne str1 str2 rfl) (by rw [decide_eq_true rfl]; rfl)) (fun z => nomatch z) (fun _ H12 e12' => ?_)
    refine q_when (b := false) (et_neS (d := dI []) (dt_L (el_noRules (t := t') (w := wp) (kk := kk) (fun _ => rfl) rfl (fun _ => rfl) (ht11.ex e12') (e12' _ _ hwp) hk9 (fun a ha => kept_part (up_nodup (kept_up n l)) clo kin ((hkk a (hk9 a ha)).mp ha)) (fun _ => rfl))) (dt_L (l := []) (el_lst ea_nil (Nat.zero_le _))) (shaped_dI [])) (fun z => nomatch z) (fun _ H13 e13' => ?_)
    have e913 := (e911.trans e12').trans e13'
    have e513 := e59.trans e913
    have ht13 := ht9.ex e913
    obtain ⟨ra, hra, _, _⟩ := ht13.rows.ref ok2 (a := 0) (by omega)
    refine (ev_sub (ev_is (ev_lenL (ev_var rfl) (sq_of (e513 _ _ hk5))) (by rw [nI_len])) ev_c : Ev (tOp rSubK (tCB (rLenS K) (tCons (tVar 3) tNil)) (tC (.int 1))) [some (.ref t), some (.ref r), some (.ref v), some (.ref k), some .non, some (.ref h), some (.ref t'), some (.ref ln), some (.ref wp), none, none, none, none, none] H13 (.int (((keptOf n l).length : Int) - 1))) H13 (Ex.refl _) _ fun H14 e14 => ?_
    refine ⟨.ref t', rfl, ?_⟩
    refine (eu_tup (v2 (x := 0) (y := 0) ev_c ev_c) (by show 2 ≤ 100000; decide) : EvU _ _ H14 _) H14 (Ex.refl _) _ fun p15 H15 np15 e15 hp15 => ?_
    have ht15 := ht13.ex (e14.trans e15)
    obtain ⟨dx15, hi15⟩ := ht15.ins
    have em : ((keptOf n l).length : Int) - 1 = (((keptOf n l).length - 1 : Nat) : Int) := by omega
    rw [em]
    refine ⟨t', dx15, _, rfl, hi15, t', p15, r', ra, as', _, _, 0, 0, (keptOf n l).length - 1, rfl, ht15, by omega, by omega, by omega, hp15, hra, fun H16 e16 => ?_⟩
    have ram := List.mem_of_getElem? hra
    have fr : H5 ra = none := nw'.2 ra ram
    have e516 : Ex H5 (upd H16 ra (.lst (nI (((partRows (opOf R) (keptOf n l)).getD 0 []).set 0 ((keptOf n l).length - 1))))) := Ex.mut (((e513.trans e14).trans e15).trans e16) fr
    have T16 : LamX.Tabs LT (upd H16 ra (.lst (nI (((partRows (opOf R) (keptOf n l)).getD 0 []).set 0 ((keptOf n l).length - 1))))) := T5.ext e516
    refine s_ret (ev_eqS (d := dR R) (dt_W (ew_rowsT (ea_cons (ev_var rfl) ea_nil) (ht5.ex e516))) (dt_val (ev_var rfl) (dp_rows (hr5.ex e516))) (shaped_dR R)) fun H17 e17 => q H17 (eN5.trans (exN_of (e516.trans e17))) (T16.ext e17)
end K28
end
section
namespace K28
open PySem PySem.Spec L2 PyProof.Rows Evl
/-! ### the law's state -/
structure LawS (K : PySem.W.Frag) (LT : List (Addr × Str)) (p c r tb rt : Addr) (as ast : List Addr) (R : List (List Nat)) (n T : Nat) (H : Hp) : Prop where
  rows : RowsAt H r as R
  nd : as.Nodup
  tbl : TblAt K H tb n rt ast R
  dis : ∀ x ∈ as, x ∉ ast
  cas : c ∉ as ∧ c ∉ ast
  pen : PenAt H p c T
  tabs : LamX.Tabs LT H
theorem TblAt.pen {K : PySem.W.Frag} {p c t r : Addr} {T u n : Nat} {H H' : Hp} {as : List Addr} {R : List (List Nat)} (h : TblAt K H t n r as R) (hp : PenAt H p c u) (g : PenGo p c T H H') : TblAt K H' t n r as R := by
  obtain ⟨⟨dx, hi⟩, h2, h3, h4, h5, h6⟩ := h
  refine ⟨⟨dx, g.1 _ _ hi fun z => ?_⟩, h2.pen hp g, h3, h4, h5, h6⟩
  obtain ⟨k, l, cells, q, _⟩ := hp
  have z' : t = p := z
  rw [z', q] at hi
  cases hi
theorem tabs_pen {LT : List (Addr × Str)} {p c : Addr} {T u : Nat} {H H' : Hp} (h : LamX.Tabs LT H) (hp : PenAt H p c u) (g : PenGo p c T H H') : LamX.Tabs LT H' := tabs_fr h g.1 fun a s => by
  obtain ⟨k, l, cells, q, _⟩ := hp
  have s' : a = p := s
  rw [s', q]
  exact ⟨(fun ps z => by cases z), (fun f z => by cases z)⟩
theorem pen_exN {p c : Addr} {T : Nat} {H H' : Hp} (h : PenAt H p c T) (e : LamX.ExtN H H') : PenAt H' p c T := by
  obtain ⟨k, l, cells, h1, h2, h3, h4⟩ := h
  exact ⟨k, l, cells, e _ _ h1 (fun ps z => by cases z), e _ _ h2 (fun ps z => by cases z), h3, h4⟩
section
variable {K : PySem.W.Frag} {LT : List (Addr × Str)} {p c r tb rt : Addr} {as ast : List Addr} {R : List (List Nat)} {n T U : Nat} {H H' : Hp}
theorem LawS.ex (h : LawS K LT p c r tb rt as ast R n T H) (e : Ex H H') : LawS K LT p c r tb rt as ast R n T H' := ⟨h.rows.ex e, h.nd, h.tbl.ex e, h.dis, h.cas, h.pen.ex e, h.tabs.ext e⟩
theorem LawS.go (h : LawS K LT p c r tb rt as ast R n T H) (g : PenGo p c U H H') : LawS K LT p c r tb rt as ast R n U H' := ⟨h.rows.pen h.pen g, h.nd, h.tbl.pen h.pen g, h.dis, h.cas, g.2, tabs_pen h.tabs h.pen g⟩
theorem LawS.exN (h : LawS K LT p c r tb rt as ast R n T H) (e : LamX.ExtN H H') (t : LamX.Tabs LT H') : LawS K LT p c r tb rt as ast R n T H' := ⟨exN_rows h.rows e, h.nd, exN_tbl h.tbl e, h.dis, h.cas, pen_exN h.pen e, t⟩
theorem LawS.up (h : LawS K LT p c r tb rt as ast R n T H) (e : T ≤ U) : LawS K LT p c r tb rt as ast R n U H := ⟨h.rows, h.nd, h.tbl, h.dis, h.cas, h.pen.up e, h.tabs⟩
/-- a row of the table set -/
theorem LawS.ne_pen {a : Addr} {xs : List V} (h : LawS K LT p c r tb rt as ast R n T H) (ha : H a = some (.lst xs)) : a ≠ p := lst_ne_pen h.pen ha
end
theorem pen_upd {p c a : Addr} {T : Nat} {H : Hp} {xs ys : List V} (h : PenAt H p c T) (ha : H a = some (.lst xs)) (hc : a ≠ c) : PenAt (upd H a (.lst ys)) p c T := by
  have ap := lst_ne_pen h ha
  obtain ⟨k, l, cells, h1, h2, h3, h4⟩ := h
  exact ⟨k, l, cells, by rw [upd_ne ap.symm]; exact h1, by rw [upd_ne hc.symm]; exact h2, h3, h4⟩
theorem rows_upd {r a : Addr} {as : List Addr} {R : List (List Nat)} {H : Hp} {o : HO} (h : RowsAt H r as R) (h1 : r ≠ a) (h2 : a ∉ as) : RowsAt (upd H a o) r as R :=
  ⟨by rw [upd_ne h1]; exact h.at_, h.len, fun i x y hx hy => by rw [upd_ne (fun z => h2 (by rw [← z]; exact List.mem_of_getElem? hx))]; exact h.row i x y hx hy⟩
theorem tbl_upd {K : PySem.W.Frag} {t r a : Addr} {n : Nat} {as : List Addr} {R : List (List Nat)} {H : Hp} {xs : List V} {o : HO} (h : TblAt K H t n r as R) (ha : H a = some (.lst xs)) (h1 : r ≠ a) (h2 : a ∉ as) : TblAt K (upd H a o) t n r as R := by
  obtain ⟨⟨dx, hi⟩, g2, g3, g4, g5, g6⟩ := h
  refine ⟨⟨dx, ?_⟩, rows_upd g2 h1 h2, g3, g4, g5, g6⟩
  rw [upd_ne (fun z => by rw [z, ha] at hi; cases hi)]
  exact hi
/-- made[a, b] = c; line[b] = c -/
theorem LawS.two {K : PySem.W.Frag} {LT : List (Addr × Str)} {p c r tb rt : Addr} {as ast : List Addr} {R : List (List Nat)} {n T a b x : Nat} {H : Hp} {ra : Addr} (h : LawS K LT p c r tb rt as ast R n T H) (ha : a < n) (hx : x < n) (hra : ast[a]? = some ra) :
    RowsAt (upd H ra (.lst (nI ((R.getD a []).set b x)))) r as R ∧ TblAt K (upd H ra (.lst (nI ((R.getD a []).set b x)))) tb n rt ast (setE R a b x) ∧ PenAt (upd H ra (.lst (nI ((R.getD a []).set b x)))) p c T ∧ LamX.Tabs LT (upd H ra (.lst (nI ((R.getD a []).set b x)))) := by
  have hrow := h.tbl.rows.row a ra _ hra (h.tbl.ok.row_at ha).1
  have ram := List.mem_of_getElem? hra
  refine ⟨rows_upd h.rows (h.rows.ne h.tbl.ok h.tbl.pos hrow) fun z => h.dis ra z ram, h.tbl.set ha hx hra, pen_upd h.pen hrow fun z => h.cas.2 (by rw [← z]; exact ram), tabs_upd h.tabs hrow⟩
theorem LawS.line {K : PySem.W.Frag} {LT : List (Addr × Str)} {p c r tb rt : Addr} {as ast : List Addr} {R R2 : List (List Nat)} {n T a b x : Nat} {H : Hp} {ra : Addr} (ok : TabOk n R) (rows : RowsAt H r as R) (nd : as.Nodup) (tbl : TblAt K H tb n rt ast R2) (dis : ∀ x ∈ as, x ∉ ast) (cas : c ∉ as ∧ c ∉ ast) (pen : PenAt H p c T) (tabs : LamX.Tabs LT H) (ha : a < n) (hra : as[a]? = some ra) (e2 : R2 = setE R a b x) :
    LawS K LT p c r tb rt as ast (setE R a b x) n T (upd H ra (.lst (nI ((R.getD a []).set b x)))) := by
  subst e2
  have hrow := rows.row a ra _ hra (ok.row_at ha).1
  have ram := List.mem_of_getElem? hra
  exact ⟨rows.set ok nd ha hra, nd, tbl_upd tbl hrow (tbl.rows.ne tbl.ok tbl.pos hrow) (dis ra ram), dis, cas, pen_upd pen hrow fun z => cas.1 (by rw [← z]; exact ram), tabs_upd tabs hrow⟩
end K28
end
section
namespace K28
open PySem PySem.Spec L2 PyProof.Rows Evl
section
variable {K : PySem.W.Frag} {LT : List (Addr × Str)} {p c r tb rt : Addr} {as ast : List Addr} {R : List (List Nat)} {n T U : Nat} {H H' : Hp} {σ : L2.St} {D : Ends} {tz : TS} {Q : VK}
theorem LawS.len (S : LawS K LT p c r tb rt as ast R n T H) (h3 : σ[3]? = some (some (.ref r))) : Ev (tCB (rLenS K) (tCons (tVar 3) tNil)) σ H (.int (n : Int)) := ev_is (ev_lenL (ev_var h3) (sq_of S.rows.at_)) (by rw [List.length_map, S.rows.len, S.tbl.ok.len])
theorem rows_in {H : Hp} {r q : Addr} {as : List Addr} {R : List (List Nat)} (h : RowsAt H r as R) (nq : H q = none) : q ∉ as := fun m => by
  obtain ⟨i, hi⟩ := List.getElem?_of_mem m
  have hl := (List.getElem?_eq_some_iff.mp hi).1
  have h2 := h.row i q _ hi (List.getElem?_eq_getElem (by rw [← h.len]; exact hl))
  rw [nq] at h2
  cases h2
theorem LawS.fresh {q : Addr} (S : LawS K LT p c r tb rt as ast R n T H) (nq : H q = none) : q ∉ as ∧ q ∉ ast := ⟨rows_in S.rows nq, rows_in S.tbl.rows nq⟩
theorem LawS.n7 (S : LawS K LT p c r tb rt as ast R n T H) : 1 ≤ n ∧ n ≤ 7 := ⟨S.tbl.pos, S.tbl.sm⟩
/-- draw(pen, s), the span a number -/
theorem drawC {s : Nat} (pen : PenAt H p c T) (hT : T < 1000000) (h1 : σ[1]? = some (some (.ref p))) (hs : 0 < s) (hs2 : s < 1000) (k : ∀ H' (d : Nat), d < s → PenGo p c (T + 1) H H' → Q (.int (d : Int)) H') : (tCall (sp_law_draw K) [] E0 (tCons (tVar 1) (tCons (tC (.int (s : Int))) tNil))) σ H Q :=
  ⟨.ref p, h1, p, c, T, s, rfl, hs, hs2, hT, pen, fun H' d hd g => k H' d hd g⟩
/-- draw(pen, e), the span told -/
theorem drawE {s : Nat} {te : TE} (pen : PenAt H p c T) (hT : T < 1000000) (h1 : σ[1]? = some (some (.ref p))) (he : Ev te σ H (.int (s : Int))) (hs : 0 < s) (hs2 : s < 1000) (k : ∀ H' (d : Nat), d < s → PenGo p c (T + 1) H H' → Q (.int (d : Int)) H') : (tCall (sp_law_draw K) [] E0 (tCons (tVar 1) (tCons te tNil))) σ H Q :=
  ⟨.ref p, h1, he H (Ex.refl H) _ fun H1 e1 => ⟨p, c, T, s, rfl, hs, hs2, hT, pen.ex e1, fun H' d hd g => k H' d hd ((PenGo.of pen e1).trans g)⟩⟩
/-- some = few(pen, list(range(len(rows))), draw(pen, 4)) -/
theorem q_few (S : LawS K LT p c r tb rt as ast R n T H) (hT : T < 800000) (h1 : σ[1]? = some (some (.ref p))) (h3 : σ[3]? = some (some (.ref r)))
    (k : ∀ q (l : List Nat) H', (∀ x ∈ l, x < n) → l.length ≤ 3 → H' q = some (.lst (nI l)) → LawS K LT p c r tb rt as ast R n (T + 20) H' → tz D (σ.set 6 (some (.ref q))) H') :
    tSeq (tAsg (tCall (sp_law_few K) [] E0 (tCons (tVar 1) (tCons (tLstRg (tRg1 (tCB (rLenS K) (tCons (tVar 3) tNil)))) (tCons (tCall (sp_law_draw K) [] E0 (tCons (tVar 1) (tCons (tC (.int 4)) tNil))) tNil)))) (gName 6)) tz D σ H := by
  obtain ⟨n1, n7⟩ := S.n7
  refine q_as ⟨.ref p, h1, ?_⟩
  refine (S.len h3) H (Ex.refl H) _ fun H1 e1 => ⟨(n : Int), rfl, RgOk.of_le (by decide) (by omega) (by decide) (by omega), fun s ns => ?_⟩
  have es : Ex H (upd H1 s (.lst (rgV 0 (n : Int)))) := e1.trans (Ex.new ns)
  refine drawC (s := 4) (S.pen.ex es) (by omega) h1 (by decide) (by decide) fun H2 d hd g2 => ?_
  have hs2 : H2 s = some (.lst (nI (List.range n))) := g2.lst (S.pen.ex es) (by rw [upd_same, rgV_nat])
  refine ⟨p, c, s, T + 1, d, List.range n, rfl, hs2, by rw [List.length_range]; omega, by omega, by omega, g2.2, fun H3 q l hl hlen nq hq g3 => ?_⟩
  refine k q l H3 (fun x hx => by have := hl x hx; rwa [List.mem_range] at this) (by omega) hq (((S.ex es).go g2).go g3 |>.up (by omega))
/-- some = some + some[:draw(pen, 2)] -/
theorem q_dbl {s : Addr} {l : List Nat} (S : LawS K LT p c r tb rt as ast R n T H) (hT : T < 800000) (h1 : σ[1]? = some (some (.ref p))) (h6 : σ[6]? = some (some (.ref s))) (hs : H s = some (.lst (nI l))) (hl : ∀ x ∈ l, x < n) (hl3 : l.length ≤ 3)
    (k : ∀ q (l : List Nat) H', q ∉ as ∧ q ∉ ast → (∀ x ∈ l, x < n) → l.length ≤ 6 → H' q = some (.lst (nI l)) → LawS K LT p c r tb rt as ast R n (T + 1) H' → tz D (σ.set 6 (some (.ref q))) H') :
    tSeq (tAsg (tOp rCat (tVar 6) (tSl (rSlL K) (tVar 6) tNoPart (tPart (tCall (sp_law_draw K) [] E0 (tCons (tVar 1) (tCons (tC (.int 2)) tNil)))))) (gName 6)) tz D σ H := by
  refine q_as ⟨.ref s, h6, .ref s, h6, ?_⟩
  refine drawC (s := 2) S.pen (by omega) h1 (by decide) (by decide) fun H2 d hd g2 => ?_
  have hs2 := g2.lst S.pen hs
  have S2 := S.go g2
  refine ⟨(d : Int), rfl, s, nI l, rfl, sq_of hs2, fun b nb => ?_⟩
  have ec : cutV (nI l) none (some (d : Int)) = nI (l.take d) := by
    rw [cut_to]
    unfold nI
    rw [List.map_take]
  rw [ec]
  refine ⟨s, b, nI l, nI (l.take d), rfl, rfl, Ex.new nb _ _ hs2, upd_same, ?_, fun q nq => ?_⟩
  · rw [nI_len, nI_len, List.length_take]
    have := sz_of (show 7 ≤ 100000 by decide)
    omega
  · rw [← nI_app]
    refine k q (l ++ l.take d) _ ((S2.ex (Ex.new nb)).fresh nq) (fun x hx => ?_) (by rw [List.length_append, List.length_take]; omega) upd_same ((S2.ex (Ex.new nb)).ex (Ex.new nq))
    rcases List.mem_append.mp hx with hx | hx
    · exact hl x hx
    · exact hl x (List.mem_of_mem_take hx)
/-- due, handed = closed_values(rows, some), list(some) -/
theorem q_due2 {s : Addr} {l : List Nat} (S : LawS K LT p c r tb rt as ast R n T H) (h3 : σ[3]? = some (some (.ref r))) (h6 : σ[6]? = some (some (.ref s))) (hs : H s = some (.lst (nI l))) (hl : ∀ x ∈ l, x < n) (hl6 : l.length ≤ 6)
    (k : ∀ d h L H', Ex H H' → H' d = some (.lst (nI L)) → IsGen (opOf R) l L → H' h = some (.lst (nI l)) → tz D ((σ.set 7 (some (.ref d))).set 8 (some (.ref h))) H') :
    tSeq (tPar 7 8 (tCons (tCall (sp_law_closed_values K) [] E0 (tCons (tVar 3) (tCons (tVar 6) tNil))) (tCons (tCB (rListS K) (tCons (tVar 6) tNil)) tNil))) tz D σ H := by
  refine ⟨.ref r, h3, .ref s, h6, r, s, as, R, n, l, rfl, S.n7.2, S.rows, S.tbl.ok, hs, by omega, hl, fun H1 d L e1 nd hd gen => ?_⟩
  refine ⟨.ref s, h6, s, nI l, rfl, .inl (sq_of (e1 _ _ hs)), fun h nh => ⟨.ref d, .ref h, rfl, ?_⟩⟩
  exact k d h L _ (e1.trans (Ex.new nh)) (Ex.new nh _ _ hd) gen upd_same
/-- seen = made.generated(handed if draw(pen, 3) > 0 else tuple(handed)) -/
theorem q_seen {h : Addr} {l : List Nat} (S : LawS K LT p c r tb rt as ast R n T H) (hT : T < 800000) (h1 : σ[1]? = some (some (.ref p))) (h4 : σ[4]? = some (some (.ref tb))) (h8 : σ[8]? = some (some (.ref h))) (hh : H h = some (.lst (nI l))) (hl : ∀ x ∈ l, x < n)
    (k : ∀ H3 q L H', PenGo p c (T + 1) H H3 → H3 q = none → Ex H3 H' → H' q = some (.lst (nI L)) → IsGen (opOf R) l L → tz D (σ.set 9 (some (.ref q))) H') :
    tSeq (tAsg (tMeth (He.ga K "Table") "generated" (sp_Tgenerated K) [] E0 (tVar 4) (tCons (tIf (tTest (tOp rGtK (tCall (sp_law_draw K) [] E0 (tCons (tVar 1) (tCons (tC (.int 3)) tNil))) (tC (.int 0)))) (tVar 8) (tCB (rTupS K) (tCons (tVar 8) tNil))) tNil)) (gName 9)) tz D σ H := by
  obtain ⟨dx, hi⟩ := S.tbl.ins
  refine q_as ⟨.ref tb, h4, tb, dx, _, rfl, hi, rfl, ?_⟩
  refine drawC (s := 3) S.pen (by omega) h1 (by decide) (by decide) fun H2 d hd g2 => ?_
  have S2 := S.go g2
  have hh2 := g2.lst S.pen hh
  have call : ∀ (v : Addr) H3, Ex H2 H3 → SqLT K H3 v (nI l) → sp_Tgenerated K [.ref tb, .ref v] H3 (fun v H' => tz D (σ.set 9 (some v)) H') E0 := fun v H3 e3 hv =>
    ⟨tb, v, rt, ast, R, n, l.map fun (n : Nat) => (n : Int), rfl, S2.tbl.ex e3, by rw [← nI_map]; exact hv, fun l' hl' _ H4 q L e4 nq hq gen => by
      rw [nI_iI hl'] at gen
      exact k H2 q L H4 g2 (fresh_back e3 nq) (e3.trans e4) hq gen, fun d b => (no_bad hl b).elim⟩
  refine ⟨(d : Int), 0, rfl, rfl, _, rfl, ?_⟩
  show (if decide ((d : Int) > 0) = true then _ else _)
  split
  · exact ⟨.ref h, h8, call h H2 (Ex.refl _) (.inl (sq_of hh2))⟩
  · exact ⟨.ref h, h8, h, nI l, rfl, .inl ⟨sq_of hh2, fun q nq => call q _ (Ex.new nq) (.inr (st_of upd_same))⟩⟩
end
end K28
end
section
namespace K28
open PySem PySem.Spec L2 PyProof.Rows Evl
/-! ### repr of a list of small numbers -/
theorem small_shown : ∀ x : Nat, x < 10 → (PyData.shown (.int (x : Int))).length ≤ 13 := by decide +kernel
theorem small_weight : ∀ x : Nat, x < 10 → PyData.weight (.int (x : Int)) ≤ 4 := by decide +kernel
theorem small_show : ∀ x : Nat, x < 10 → PyData.showable (.int (x : Int)) = true := by decide +kernel
theorem shorts_nI : ∀ l : List Nat, (∀ x ∈ l, x < 10) → PyData.intsShortAll 13 (l.map fun (n : Nat) => PyData.int (n : Int)) = true
  | [], _ => rfl
  | x :: l, h => by
    show (decide ((PyData.shown (.int (x : Int))).length ≤ 13) && PyData.intsShortAll 13 (l.map fun (n : Nat) => PyData.int (n : Int))) = true
    rw [shorts_nI l fun y hy => h y (List.mem_cons_of_mem _ hy), decide_eq_true (small_shown x (h x List.mem_cons_self))]
    rfl
theorem weight_nI : ∀ l : List Nat, (∀ x ∈ l, x < 10) → PyData.weightAll (l.map fun (n : Nat) => PyData.int (n : Int)) ≤ 5 * l.length
  | [], _ => Nat.le_refl _
  | x :: l, h => by
    show PyData.weight (.int (x : Int)) + 1 + PyData.weightAll (l.map fun (n : Nat) => PyData.int (n : Int)) ≤ 5 * (l.length + 1)
    have h1 := weight_nI l fun y hy => h y (List.mem_cons_of_mem _ hy)
    have h2 := small_weight x (h x List.mem_cons_self)
    omega
theorem show_nI : ∀ l : List Nat, (∀ x ∈ l, x < 10) → PyData.showableAll (l.map fun (n : Nat) => PyData.int (n : Int)) = true
  | [], _ => rfl
  | x :: l, h => by
    show (PyData.showable (.int (x : Int)) && PyData.showableAll (l.map fun (n : Nat) => PyData.int (n : Int))) = true
    rw [show_nI l fun y hy => h y (List.mem_cons_of_mem _ hy), small_show x (h x List.mem_cons_self)]
    rfl
theorem nodict_nI : ∀ l : List Nat, PyData.hasDictAll (l.map fun (n : Nat) => PyData.int (n : Int)) = false
  | [] => rfl
  | x :: l => by
    show (false || PyData.hasDictAll (l.map fun (n : Nat) => PyData.int (n : Int))) = false
    rw [nodict_nI l]
    rfl
theorem shown_small {l : List Nat} (h : ∀ x ∈ l, x < 10) (hl : l.length ≤ 1000) : (dI l).shown.length ≤ sizeLine := by
  have lay : PyData.layable0 (dI l) = true := by
    show (PyData.canLay0 (dI l) && decide (PyData.depth (dI l) ≤ 64) && decide (PyData.weightAll _ ≤ 2 ^ 20)) = true
    have w : PyData.weightAll (l.map fun (n : Nat) => PyData.int (n : Int)) ≤ 2 ^ 20 := by have := weight_nI l h; omega
    rw [lay_dI, dep_dI, decide_eq_true w]
    rfl
  have h1 := PyProof.Rows.shown_le13 lay (shorts_nI l h)
  rw [sizeLine_eq]
  omega
section
variable {K : PySem.W.Frag} {LT : List (Addr × Str)} {p c r tb rt : Addr} {as ast : List Addr} {R : List (List Nat)} {n T U : Nat} {H H' : Hp} {σ : L2.St} {D : Ends} {tz : TS} {Q : VK}
theorem ev_repr {a : Addr} {l : List Nat} {te : TE} (h : Ev te σ H (.ref a)) (ha : H a = some (.lst (nI l))) (hs : ∀ x ∈ l, x < 10) (hl : l.length ≤ 1000) : Ev (tCB (rReprL K) (tCons te tNil)) σ H (.str (dI l).shown) := fun H1 e Q q =>
  h H1 e _ fun H2 e2 => ⟨a, l.map fun (n : Nat) => PyData.int (n : Int), rfl, dp_nI (sq_of ((e.trans e2) _ _ ha)), show_nI l hs, nodict_nI l, by show PyData.depth (dI l) ≤ 4; rw [dep_dI]; decide, shown_small hs hl, q H2 e2⟩
/-- if repr(seen) != repr(due) or handed != some: return False -/
theorem q_same {seen due h s : Addr} {L l : List Nat} (h9 : σ[9]? = some (some (.ref seen))) (h7 : σ[7]? = some (some (.ref due))) (h8 : σ[8]? = some (some (.ref h))) (h6 : σ[6]? = some (some (.ref s))) (a9 : H seen = some (.lst (nI L))) (a7 : H due = some (.lst (nI L))) (a8 : H h = some (.lst (nI l))) (a6 : H s = some (.lst (nI l)))
    (hs : ∀ x ∈ L, x < 10) (hl : L.length ≤ 1000) (k : ∀ H1, Ex H H1 → tz D σ H1) :
    tSeq (tIfS (tOr (tTest (tOp rNe (tCB (rReprL K) (tCons (tVar 9) tNil)) (tCB (rReprL K) (tCons (tVar 7) tNil)))) (tTest (tOp (rNeD K) (tVar 8) (tVar 6)))) (tRet (tC (.bl false))) tNext) tz D σ H := by
  refine q_when (b := false) (et_is (et_or (et_ne (ev_repr (ev_var h9) a9 hs hl) (ev_repr (ev_var h7) a7 hs hl) rfl) fun _ => et_neS (d := dI l) (dt_val (ev_var h8) (dp_nI (sq_of a8))) (dt_val (ev_var h6) (dp_nI (sq_of a6))) (shaped_dI l)) (by rw [decide_eq_true rfl]; rfl)) (fun z => nomatch z) fun _ H1 e1 => k H1 e1
/-- seen.append(99) -/
theorem q_app {seen : Addr} {L : List Nat} (h9 : σ[9]? = some (some (.ref seen))) (a9 : H seen = some (.lst (nI L))) (hl : L.length ≤ 1000) (k : ∀ o, tz D σ (upd H seen (.lst o))) :
    tSeq (tDrop (tBM K "list" rAppend (tVar 9) (tCons (tC (.int 99)) tNil))) tz D σ H :=
  ⟨.ref seen, h9, .inl ⟨rfl, _, sq_of a9⟩, seen, nI L, .int 99, rfl, rfl, a9, sz_lt (by rw [nI_len]; omega), k _⟩
/-- part_right(made, rows, some) -/
theorem t_part {s : Addr} {l : List Nat} (S : LawS K LT p c r tb rt as ast R n T H) (hs : H s = some (.lst (nI l))) (hl : ∀ x ∈ l, x < n) (hl20 : l.length ≤ 20) {Q : VK} (k : ∀ H1, LamX.ExtN H H1 → LamX.Tabs LT H1 → Q (.bl true) H1) : sp_law_part_right K LT [.ref tb, .ref r, .ref s] H Q E0 :=
  ⟨tb, r, s, rt, as, ast, R, n, l, rfl, S.tabs, S.tbl, S.rows, hs, hl20, hl, k⟩
/-- if not part_right(..) or not part_right(.., shuffled(pen, due)): return False -/
theorem q_parts {s due : Addr} {l L : List Nat} (S : LawS K LT p c r tb rt as ast R n T H) (hT : T < 800000) (h1 : σ[1]? = some (some (.ref p))) (h3 : σ[3]? = some (some (.ref r))) (h4 : σ[4]? = some (some (.ref tb))) (h6 : σ[6]? = some (some (.ref s))) (h7 : σ[7]? = some (some (.ref due)))
    (hs : H s = some (.lst (nI l))) (hl : ∀ x ∈ l, x < n) (hl20 : l.length ≤ 20) (hd : H due = some (.lst (nI L))) (hL : ∀ x ∈ L, x < n) (hL10 : L.length ≤ 10)
    (k : ∀ H1, LawS K LT p c r tb rt as ast R n (T + 10) H1 → H1 s = some (.lst (nI l)) → tz D σ H1) :
    tSeq (tIfS (tOr (tNot (tB (tCall (sp_law_part_right K LT) [] E0 (tCons (tVar 4) (tCons (tVar 3) (tCons (tVar 6) tNil)))))) (tNot (tB (tCall (sp_law_part_right K LT) [] E0 (tCons (tVar 4) (tCons (tVar 3) (tCons (tCall (sp_law_shuffled K) [] E0 (tCons (tVar 1) (tCons (tVar 7) tNil))) tNil))))))) (tRet (tC (.bl false))) tNext) tz D σ H := by
  refine ⟨.ref tb, h4, .ref r, h3, .ref s, h6, ?_⟩
  simp only [tNil, List.cons_append, List.nil_append]
  refine t_part S hs hl hl20 fun H1 e1 T1 => ⟨true, rfl, ?_⟩
  have S1 := S.exN e1 T1
  show (if (!true) = true then _ else _)
  rw [if_neg (by decide)]
  refine ⟨.ref tb, h4, .ref r, h3, .ref p, h1, .ref due, h7, p, c, due, T, L, rfl, exN_lst e1 hd, hL10, by omega, S1.pen, fun H2 q l' perm nq hq g2 => ?_⟩
  have S2 := S1.go g2
  simp only [tNil, List.cons_append, List.nil_append]
  refine t_part S2 hq (fun x hx => hL x (perm.mem_iff.mp hx)) (by rw [perm.length_eq]; omega) fun H3 e3 T3 => ⟨true, rfl, ?_⟩
  show (if (!true) = true then _ else _)
  rw [if_neg (by decide)]
  exact k H3 (S2.exN e3 T3) (exN_lst e3 (g2.lst S1.pen (exN_lst e1 hs)))
end
end K28
end
section
namespace K28
open PySem PySem.Spec L2 PyProof.Rows Evl
theorem FirstBad.unique {n : Nat} {xs : List Int} {d e : Int} (a : FirstBad n xs d) (b : FirstBad n xs e) : d = e := by
  obtain ⟨i, hi, bi, ai⟩ := a
  obtain ⟨j, hj, bj, aj⟩ := b
  rcases Nat.lt_trichotomy i j with h | h | h
  · exact (bi (aj i d h hi)).elim
  · subst h
    rw [hi] at hj
    cases hj
    rfl
  · exact (bj (ai j e h hj)).elim
theorem FirstBad.not {n : Nat} {xs : List Int} {d : Int} {l : List Nat} (a : FirstBad n xs d) (h : nI l = iI xs) (hl : ∀ x ∈ l, x < n) : False := by
  obtain ⟨i, hi, bi, _⟩ := a
  have h1 := iI_at hi
  rw [← h] at h1
  obtain ⟨y, hy, e⟩ := nI_of h1
  have e2 : d = (y : Int) := by injection e
  have := hl y (List.mem_of_getElem? hy)
  exact bi (by omega)
def bentI (l : List Nat) (d : Nat) (x : Int) : List Int := ((l.take d).map fun (n : Nat) => (n : Int)) ++ [x, -7] ++ ((l.drop d).map fun (n : Nat) => (n : Int))
theorem bent_bad {n d : Nat} {l : List Nat} {x : Int} (hl : ∀ y ∈ l, y < n) (hx : ¬ (0 ≤ x ∧ x < (n : Int))) : FirstBad n (bentI l d x) x := by
  refine ⟨(l.take d).length, ?_, hx, fun j y hj hy => ?_⟩
  · unfold bentI
    rw [List.append_assoc, List.getElem?_append_right (by rw [List.length_map]; exact Nat.le_refl _), List.length_map, Nat.sub_self]
    rfl
  · unfold bentI at hy
    rw [List.append_assoc, List.getElem?_append_left (by rw [List.length_map]; exact hj)] at hy
    obtain ⟨z, hz, rfl⟩ := map_at hy
    have := hl z (List.mem_of_mem_take (List.mem_of_getElem? hz))
    omega
theorem bent_is (l : List Nat) (d : Nat) (x : Int) : cutV (nI l) none (some (d : Int)) ++ [V.int x, V.int (-7)] ++ cutV (nI l) (some (d : Int)) none = iI (bentI l d x) := by
  rw [cut_to, cut_from]
  unfold bentI iI nI
  rw [List.map_append, List.map_append, List.map_map, List.map_map, List.map_take, List.map_drop]
  rfl
theorem bent_len (l : List Nat) (d : Nat) (x : Int) : (bentI l d x).length ≤ l.length + 2 := by
  unfold bentI
  rw [List.length_append, List.length_append, List.length_map, List.length_map, List.length_take, List.length_drop]
  show min d l.length + 2 + (l.length - d) ≤ _
  omega
section
variable {K : PySem.W.Frag} {LT : List (Addr × Str)} {p c r tb rt : Addr} {as ast : List Addr} {R : List (List Nat)} {n T U : Nat} {H H' : Hp} {σ : L2.St} {D : Ends} {tz : TS} {Q : VK}
/-- at, odd = draw(pen, len(some) + 1), pick(pen, [-1, len(rows), 60, 10 ** 20]) -/
theorem q_atodd {s : Addr} {l : List Nat} (S : LawS K LT p c r tb rt as ast R n T H) (hT : T < 800000) (h1 : σ[1]? = some (some (.ref p))) (h3 : σ[3]? = some (some (.ref r))) (h6 : σ[6]? = some (some (.ref s))) (hs : H s = some (.lst (nI l))) (hl6 : l.length ≤ 6)
    (k : ∀ (d : Nat) (x : Int) H', ¬ (0 ≤ x ∧ x < (n : Int)) → LawS K LT p c r tb rt as ast R n (T + 2) H' → H' s = some (.lst (nI l)) → tz D ((σ.set 10 (some (.int (d : Int)))).set 11 (some (.int x))) H') :
    tSeq (tPar 10 11 (tCons (tCall (sp_law_draw K) [] E0 (tCons (tVar 1) (tCons (tOp rAddK (tCB (rLenS K) (tCons (tVar 6) tNil)) (tC (.int 1))) tNil))) (tCons (tCall (sp_law_pick K) [] E0 (tCons (tVar 1) (tCons (tLst (tCons (tUn rNegK (tC (.int 1))) (tCons (tCB (rLenS K) (tCons (tVar 3) tNil)) (tCons (tC (.int 60)) (tCons (tOp rPowK (tC (.int 10)) (tC (.int 20))) tNil))))) tNil))) tNil))) tz D σ H := by
  obtain ⟨n1, n7⟩ := S.n7
  refine drawE (s := l.length + 1) S.pen (by omega) h1 (ev_is (ev_add (ev_lenL (ev_var h6) (sq_of hs)) ev_c) (by rw [nI_len]; rfl)) (by omega) (by omega) fun H2 d hd g2 => ?_
  have S2 := S.go g2
  have hs2 := g2.lst S.pen hs
  refine ⟨.ref p, h1, ?_⟩
  refine (el_lst (ea_cons (ev_neg ev_c) (ea_cons (S2.len h3) (ea_cons ev_c (ea_cons (ev_pow ev_c ev_c ⟨by decide, by decide, by decide⟩) ea_nil)))) (by show 4 ≤ 100000; decide) : EvL _ σ H2 _) H2 (Ex.refl _) _ fun o H3 no e3 ho => ?_
  have S3 := S2.ex e3
  refine ⟨p, c, o, T + 1, _, rfl, S3.ne_pen ho, ho, by simp, by show 4 < 100; decide, by omega, S3.pen, fun H4 i v hv g4 => ?_⟩
  have hv2 : ∃ x : Int, v = .int x ∧ ¬ (0 ≤ x ∧ x < (n : Int)) := by
    match i, hv with
    | 0, hv => cases hv; exact ⟨_, rfl, by omega⟩
    | 1, hv => cases hv; exact ⟨_, rfl, by omega⟩
    | 2, hv => cases hv; exact ⟨_, rfl, by omega⟩
    | 3, hv => cases hv; exact ⟨_, rfl, by have : (10 : Int) ^ (20 : Int).toNat = 100000000000000000000 := by decide
                                           omega⟩
    | k + 4, hv => cases hv
  obtain ⟨x, rfl, hx⟩ := hv2
  exact ⟨.int (d : Int), .int x, rfl, k d x H4 hx (S3.go g4) (g4.lst S3.pen (e3 _ _ hs2))⟩
/-- bent = some[:at] + [odd, -7] + some[at:] -/
theorem q_bent {s : Addr} {l : List Nat} {d : Nat} {x : Int} (h6 : σ[6]? = some (some (.ref s))) (h10 : σ[10]? = some (some (.int (d : Int)))) (h11 : σ[11]? = some (some (.int x))) (hs : H s = some (.lst (nI l))) (hl6 : l.length ≤ 6)
    (k : ∀ b H', Ex H H' → H' b = some (.lst (iI (bentI l d x))) → tz D (σ.set 12 (some (.ref b))) H') :
    tSeq (tAsg (tOp rCat (tOp rCat (tSl (rSlL K) (tVar 6) tNoPart (tPart (tVar 10))) (tLst (tCons (tVar 11) (tCons (tUn rNegK (tC (.int 7))) tNil)))) (tSl (rSlL K) (tVar 6) (tPart (tVar 10)) tNoPart)) (gName 12)) tz D σ H := by
  have g := el_catN (el_catN (el_sl (K := K) (lo := none) (hi := some (d : Int)) (ev_var h6) eo_none (eo_some (ev_var h10)) (sq_of hs)) (el_lst (ea_cons (ev_var h11) (ea_cons (ev_neg (i := 7) ev_c) ea_nil)) (by show 2 ≤ 100000; decide)) (by rw [cut_to, List.length_take, nI_len]; show _ + 2 ≤ _; omega)) (el_sl (K := K) (lo := some (d : Int)) (hi := none) (ev_var h6) (eo_some (ev_var h10)) eo_none (sq_of hs)) (by
    rw [cut_to, cut_from, List.length_append, List.length_take, List.length_drop, nI_len]
    show _ + 2 + _ ≤ _
    omega)
  refine q_asgL (xs := iI (bentI l d x)) ?_ fun b H1 nb e1 hb => k b H1 e1 hb
  rw [← bent_is]
  exact g
end
end K28
end
section
namespace K28
open PySem PySem.Spec L2 PyProof.Rows Evl
section
variable {K : PySem.W.Frag} {LT : List (Addr × Str)} {p c r tb rt : Addr} {as ast : List Addr} {R : List (List Nat)} {n T U : Nat} {H H' : Hp} {σ : L2.St} {D : Ends} {tz : TS} {Q : VK}
/-- what the exception makes of it -/
theorem tried_value {xs : List Int} {x : Int} (bad : FirstBad n xs x) {H1 : Hp} {Q : VK} (q : ∀ H2 e, Ex H1 H2 → H2 e = some (.tup [.str "value", .int x, .bl true]) → Q (.ref e) H2) : ∀ d, FirstBad n xs d → Bad K "BadValue" [("value", .int d)] H1 (tried_E K Q) := fun d hd H2 dd e2 hdd => by
  have e := hd.unique bad
  subst e
  exact .inl ⟨dd, .int d, rfl, rfl, hdd, fun e np => q _ e (e2.trans (Ex.new np)) upd_same⟩
/-- if tried(lambda: made.generated(bent)) != ('value', odd, True): return False -/
theorem q_triedGen {b : Addr} {xs : List Int} {x : Int} (S : LawS K LT p c r tb rt as ast R n T H) (h4 : σ[4]? = some (some (.ref tb))) (h12 : σ[12]? = some (some (.ref b))) (h11 : σ[11]? = some (some (.int x))) (hb : H b = some (.lst (iI xs))) (bad : FirstBad n xs x)
    (k : ∀ H1, LamX.ExtN H H1 → LamX.Tabs LT H1 → tz D σ H1) :
    tSeq (tIfS (tTest (tOp (rNeD K) (LamX.tLam LT (tried_TT K) (fun E => (tMeth (He.ga K "Table") "generated" (sp_Tgenerated K) [] E (tVar 4) (tCons (tVar 12) tNil)))) (tTup (tCons (tC (.str "value")) (tCons (tVar 11) (tCons (tC (.bl true)) tNil)))))) (tRet (tC (.bl false))) tNext) tz D σ H := by
  refine ⟨S.tabs, fun H1 e1 T1 => ?_⟩
  have S1 := S.exN e1 T1
  obtain ⟨dx, hi⟩ := S1.tbl.ins
  refine ⟨.ref tb, h4, tb, dx, _, rfl, hi, rfl, .ref b, h12, tb, b, rt, ast, R, n, xs, rfl, S1.tbl, .inl (sq_of (exN_lst e1 hb)), fun l' hl' hlt => (bad.not hl' hlt).elim, tried_value bad fun H2 e e2 he => ?_⟩
  refine (eu_tup (ea_cons ev_c (ea_cons (ev_var h11) (ea_cons ev_c ea_nil))) (by show 3 ≤ 100000; decide) : EvU _ σ H2 _) H2 (Ex.refl _) _ fun e3 H3 _ ee he3 => ?_
  refine ⟨_, _, tup_data2 (ee _ _ he), tup_data2 he3, shaped_value x, shaped_value x, _, rfl, ?_⟩
  rw [same_data (shaped_value x)]
  show (if (!true) = true then _ else _)
  rw [if_neg (by decide)]
  exact k H3 (e1.trans (exN_of (e2.trans ee))) (T1.ext (e2.trans ee))
theorem q_triedPart {b : Addr} {xs : List Int} {x : Int} (S : LawS K LT p c r tb rt as ast R n T H) (h4 : σ[4]? = some (some (.ref tb))) (h12 : σ[12]? = some (some (.ref b))) (h11 : σ[11]? = some (some (.int x))) (hb : H b = some (.lst (iI xs))) (bad : FirstBad n xs x)
    (k : ∀ H1, LamX.ExtN H H1 → LamX.Tabs LT H1 → tz D σ H1) :
    tSeq (tIfS (tTest (tOp (rNeD K) (LamX.tLam LT (tried_TT K) (fun E => (tMeth (He.ga K "Table") "part" (sp_Tpart K) [] E (tVar 4) (tCons (tCB (rTupS K) (tCons (tVar 12) tNil)) tNil)))) (tTup (tCons (tC (.str "value")) (tCons (tVar 11) (tCons (tC (.bl true)) tNil)))))) (tRet (tC (.bl false))) tNext) tz D σ H := by
  refine ⟨S.tabs, fun H1 e1 T1 => ?_⟩
  have S1 := S.exN e1 T1
  obtain ⟨dx, hi⟩ := S1.tbl.ins
  refine ⟨.ref tb, h4, tb, dx, _, rfl, hi, rfl, .ref b, h12, b, iI xs, rfl, .inl ⟨sq_of (exN_lst e1 hb), fun q nq => ?_⟩⟩
  have eq := Ex.new (o := .tup (iI xs)) nq
  refine ⟨tb, q, rt, ast, R, n, xs, rfl, S1.tbl.ex eq, .inr (st_of upd_same), fun l' hl' hlt => (bad.not hl' hlt).elim, tried_value bad fun H2 e e2 he => ?_⟩
  refine (eu_tup (ea_cons ev_c (ea_cons (ev_var h11) (ea_cons ev_c ea_nil))) (by show 3 ≤ 100000; decide) : EvU _ σ H2 _) H2 (Ex.refl _) _ fun e3 H3 _ ee he3 => ?_
  refine ⟨_, _, tup_data2 (ee _ _ he), tup_data2 he3, shaped_value x, shaped_value x, _, rfl, ?_⟩
  rw [same_data (shaped_value x)]
  show (if (!true) = true then _ else _)
  rw [if_neg (by decide)]
  exact k H3 (e1.trans (exN_of ((eq.trans e2).trans ee))) (T1.ext ((eq.trans e2).trans ee))
/-- a, b, c = [draw(pen, len(rows)) for k in range(3)] -/
theorem q_abc (S : LawS K LT p c r tb rt as ast R n T H) (hT : T < 800000) (hw : ∀ x, wipe ((wipe σ [17]).set 17 (some x)) [17] = wipe σ [17]) (h1 : ∀ x : V, ((wipe σ [17]).set 17 (some x))[1]? = some (some (.ref p))) (h3 : ∀ x : V, ((wipe σ [17]).set 17 (some x))[3]? = some (some (.ref r)))
    (k : ∀ (a b x : Nat) H', a < n → b < n → x < n → PenGo p c (T + 3) H H' → tz D (((σ.set 13 (some (.int (a : Int)))).set 14 (some (.int (b : Int)))).set 15 (some (.int (x : Int)))) H') :
    tSeq (tAsg (tLc (iRng1 (tCons (tC (.int 3)) tNil)) (gName 17) tYes (tCall (sp_law_draw K) [] E0 (tCons (tVar 1) (tCons (tCB (rLenS K) (tCons (tVar 3) tNil)) tNil))) [17]) (gUnl K 3 (gCons (gName 13) (gCons (gName 14) (gCons (gName 15) gNil))))) tz D σ H := by
  obtain ⟨n1, n7⟩ := S.n7
  refine ⟨3, rfl, by decide, by decide, fun Dl nD => ?_⟩
  refine lc_range (lo := 0) (n := 3) (fun i H' => ∃ l : List Nat, l.length = i ∧ (∀ x ∈ l, x < n) ∧ H' Dl = some (.lst (nI l)) ∧ PenGo p c (T + i) H H') ⟨[], rfl, by simp, upd_same, PenGo.new (PenGo.of S.pen (Ex.refl H)) S.pen nD⟩ (fun i H' hi w => ?_) (fun H' w => ?_)
  · obtain ⟨l, hl, hlt, hD, g⟩ := w
    have S2 := S.go g
    refine ⟨hw _, yes_go ?_⟩
    refine drawE (s := n) S2.pen (by omega) (h1 _) (S2.len (h3 _)) n1 (by omega) fun H4 d hd g4 => ?_
    have hD4 := g4.lst S2.pen hD
    refine ⟨nI l, hD4, sz_lt (by rw [nI_len]; omega), l ++ [d], by rw [List.length_append, hl]; rfl, fun x hx => ?_, by rw [upd_same, nI_app]; rfl, PenGo.new (g.trans g4) S.pen nD⟩
    rcases List.mem_append.mp hx with hx | hx
    · exact hlt x hx
    · rw [List.mem_singleton] at hx
      rw [hx]
      exact hd
  · obtain ⟨l, hl, hlt, hD, g⟩ := w
    match l, hl, hlt, hD with
    | [a, b, x], _, hlt, hD =>
      exact ⟨Dl, _, rfl, sq_of hD, rfl, .int (a : Int), [.int (b : Int), .int (x : Int)], rfl, .int (b : Int), [.int (x : Int)], rfl, .int (x : Int), [], rfl, rfl, k a b x H' (hlt a (by simp)) (hlt b (by simp)) (hlt x (by simp)) g⟩
end
end K28
end
section
namespace K28
open PySem PySem.Spec L2 PyProof.Rows Evl
section
variable {K : PySem.W.Frag} {LT : List (Addr × Str)} {p c r tb rt : Addr} {as ast : List Addr} {R : List (List Nat)} {n T U : Nat} {H H' : Hp} {σ : L2.St} {D : Ends} {tz : TS} {Q : VK}
/-- made[a, b], line = c, rows[a] -/
theorem q_setPair {a b x : Nat} {s : Addr} {l : List Nat} (S : LawS K LT p c r tb rt as ast R n T H) (ha : a < n) (hb : b < n) (hx : x < n) (h3 : σ[3]? = some (some (.ref r))) (h4 : σ[4]? = some (some (.ref tb))) (h13 : σ[13]? = some (some (.int (a : Int)))) (h14 : σ[14]? = some (some (.int (b : Int)))) (h15 : σ[15]? = some (some (.int (x : Int))))
    (hs : H s = some (.lst (nI l))) (ns : s ∉ as ∧ s ∉ ast)
    (k : ∀ la H', as[a]? = some la → RowsAt H' r as R → TblAt K H' tb n rt ast (setE R a b x) → PenAt H' p c T → LamX.Tabs LT H' → H' s = some (.lst (nI l)) → tz D (σ.set 16 (some (.ref la))) H') :
    tSeq (tAsg (tTup (tCons (tVar 15) (tCons (tOp (rIxL K) (tVar 3) (tVar 13)) tNil))) (gTup K 2 (gCons (gSub (tVar 4) (tTup (tCons (tVar 13) (tCons (tVar 14) tNil))) (rOwnSet (He.ga K "Table") (sp_Tsetitem K) E0)) (gCons (gName 16) gNil)))) tz D σ H := by
  obtain ⟨la, hla, _, _⟩ := S.rows.ref S.tbl.ok ha
  refine ⟨.int (x : Int), h15, ?_⟩
  refine (ev_row S.rows S.tbl.ok (ev_var h3) (ev_var h13) hla : Ev (tOp (rIxL K) (tVar 3) (tVar 13)) σ H (.ref la)) H (Ex.refl _) _ fun H1 e1 => ?_
  refine ⟨sz_of (by show 2 ≤ 100000; decide), fun tp nt => ?_⟩
  have S1 := (S.ex e1).ex (Ex.new (o := .tup [.int (x : Int), .ref la]) nt)
  refine ⟨tp, [.int (x : Int), .ref la], rfl, st_of upd_same, rfl, .int (x : Int), [.ref la], rfl, .ref tb, h4, ?_⟩
  refine (eu_tup (v2 (x := a) (y := b) (ev_var h13) (ev_var h14)) (by show 2 ≤ 100000; decide) : EvU _ σ (upd H1 tp (.tup [.int (x : Int), .ref la])) _) _ (Ex.refl _) _ fun p2 H2 np e2 hp => ?_
  have S2 := S1.ex e2
  obtain ⟨dx, hi⟩ := S2.tbl.ins
  obtain ⟨ra, hra, _, _⟩ := S2.tbl.rows.ref S2.tbl.ok ha
  refine ⟨tb, dx, _, rfl, hi, tb, p2, rt, ra, ast, R, n, a, b, x, rfl, S2.tbl, ha, hb, hx, hp, hra, fun H3 e3 => ?_⟩
  obtain ⟨g1, g2, g3, g4⟩ := (S2.ex e3).two (b := b) ha hx hra
  refine ⟨.ref la, [], rfl, rfl, k la _ hla g1 g2 g3 g4 ?_⟩
  rw [upd_ne (fun z => ns.2 (by rw [z]; exact List.mem_of_getElem? hra))]
  exact ((((e1.trans (Ex.new nt)).trans e2).trans e3)) _ _ hs
/-- line[b] = c -/
theorem q_line {a b x : Nat} {la s : Addr} {l : List Nat} (ok : TabOk n R) (rows : RowsAt H r as R) (nd : as.Nodup) (tbl : TblAt K H tb n rt ast (setE R a b x)) (dis : ∀ x ∈ as, x ∉ ast) (cas : c ∉ as ∧ c ∉ ast) (pen : PenAt H p c T) (tabs : LamX.Tabs LT H) (ha : a < n) (hb : b < n) (hla : as[a]? = some la)
    (h14 : σ[14]? = some (some (.int (b : Int)))) (h15 : σ[15]? = some (some (.int (x : Int)))) (h16 : σ[16]? = some (some (.ref la))) (hs : H s = some (.lst (nI l))) (ns : s ∉ as)
    (k : ∀ H', LawS K LT p c r tb rt as ast (setE R a b x) n T H' → H' s = some (.lst (nI l)) → tz D σ H') : tSeq (tAsg (tVar 15) (gSub (tVar 16) (tVar 14) rSetL)) tz D σ H := by
  have hrow := rows.row a la _ hla (ok.row_at ha).1
  refine ⟨.int (x : Int), h15, .ref la, h16, .int (b : Int), h14, la, nI (R.getD a []), (b : Int), b, rfl, rfl, hrow, ixN_nat (by rw [nI_len, (ok.row_at ha).2]; exact hb), ?_⟩
  have g := LawS.line (LT := LT) (p := p) (c := c) (b := b) (x := x) ok rows nd tbl dis cas pen tabs ha hla rfl
  rw [nI_set] at g
  refine k _ g ?_
  rw [upd_ne (fun z => ns (by rw [z]; exact List.mem_of_getElem? hla))]
  exact hs
/-- the last test of a turn -/
theorem s_last {s : Addr} {l : List Nat} (S : LawS K LT p c r tb rt as ast R n T H) (h3 : σ[3]? = some (some (.ref r))) (h4 : σ[4]? = some (some (.ref tb))) (h6 : σ[6]? = some (some (.ref s))) (hs : H s = some (.lst (nI l))) (hl : ∀ x ∈ l, x < n) (hl6 : l.length ≤ 6)
    (k : ∀ H1, LawS K LT p c r tb rt as ast R n T H1 → D.nx σ H1) :
    tIfS (tOr (tTest (tOp (rNeD K) (tMeth (He.ga K "Table") "generated" (sp_Tgenerated K) [] E0 (tVar 4) (tCons (tVar 6) tNil)) (tCall (sp_law_closed_values K) [] E0 (tCons (tVar 3) (tCons (tVar 6) tNil))))) (tNot (tB (tCall (sp_law_part_right K LT) [] E0 (tCons (tVar 4) (tCons (tVar 3) (tCons (tVar 6) tNil))))))) (tRet (tC (.bl false))) tNext D σ H := by
  obtain ⟨dx, hi⟩ := S.tbl.ins
  refine ⟨.ref tb, h4, tb, dx, _, rfl, hi, rfl, .ref s, h6, tb, s, rt, ast, R, n, l.map fun (n : Nat) => (n : Int), rfl, S.tbl, .inl (by rw [← nI_map]; exact sq_of hs), fun l' hl' _ H1 q L e1 nq hq gen => ?_, fun d b => (no_bad hl b).elim⟩
  rw [nI_iI hl'] at gen
  have S1 := S.ex e1
  refine ⟨.ref r, h3, .ref s, h6, r, s, as, R, n, l, rfl, S1.n7.2, S1.rows, S1.tbl.ok, e1 _ _ hs, by omega, hl, fun H2 q2 L2 e2 nq2 hq2 gen2 => ?_⟩
  have eL := gen.unique gen2
  subst eL
  refine ⟨dI L, dI L, dp_nI (sq_of (e2 _ _ hq)), dp_nI (sq_of hq2), shaped_dI L, shaped_dI L, _, rfl, ?_⟩
  rw [same_data (shaped_dI L)]
  show (if (!true) = true then _ else _)
  rw [if_neg (by decide)]
  refine ⟨.ref tb, h4, .ref r, h3, .ref s, h6, ?_⟩
  simp only [tNil, List.cons_append, List.nil_append]
  refine t_part (S1.ex e2) ((e1.trans e2) _ _ hs) hl (by omega) fun H3 e3 T3 => ⟨true, rfl, ?_⟩
  show (if (!true) = true then _ else _)
  rw [if_neg (by decide)]
  exact k H3 ((S1.ex e2).exN e3 T3)
end
end K28
end
section
namespace K28
open PySem PySem.Spec L2 PyProof.Rows Evl
theorem r_law {K : PySem.W.Frag} {LT : List (Addr × Str)} : ∀ vs H Q E, sp_law K LT vs H Q E → t_law K LT (EndsK Q) (L2.start n_law vs) H := by
  rintro vs H Q E ⟨a, ns, rfl, ha, T0, q⟩
  refine q_as ⟨.ref a, rfl, a, ns, rfl, ha, fun H1 p c e1 np nc pen1 => ?_⟩
  refine q_forR1 (n := 3) (ea_cons ev_c ea_nil) ⟨by decide, by decide⟩ (fun i σ' H' => PenAt H' p c (i * 10000) ∧ LamX.Tabs LT H' ∧ ∃ w2 w3 w4 w5 w6 w7 w8 w9 w10 w11 w12 w13 w14 w15 w16 w17, σ' = [some (.ref a), some (.ref p), w2, w3, w4, w5, w6, w7, w8, w9, w10, w11, w12, w13, w14, w15, w16, w17])
    (fun H2 e2 => ⟨(pen1.up (by omega)).ex e2, (T0.ext e1).ext e2, none, none, none, none, none, none, none, none, none, none, none, none, none, none, none, none, rfl⟩) (fun i σ' H' hi w => ?_) (fun σ' H' _ => s_ret ev_c fun H2 _ => q H2)
  obtain ⟨pen, tabs, w2, w3, w4, w5, w6, w7, w8, w9, w10, w11, w12, w13, w14, w15, w16, w17, rfl⟩ := w
  have hi3 : i < 3 := by omega
  refine q_as ⟨.ref p, rfl, p, c, i * 10000, rfl, by omega, pen, fun H2 r as R n n1 n7 nw nd hr ok g2 => ?_⟩
  refine q_as ⟨.ref r, rfl, r, as, R, n, rfl, n1, n7, hr, ok, fun H3 tb rt ast e3 ntb nw2 tbl => ?_⟩
  have pc : ∀ {H4 : Hp} {t : Nat}, PenAt H4 p c t → H4 c ≠ none := fun {H4 t} ⟨k, l, cells, h1, h2, _⟩ => by
    rw [h2]
    exact fun z => by cases z
  have S0 : LawS K LT p c r tb rt as ast R n (i * 10000 + 1000) H3 := ⟨hr.ex e3, nd, tbl, fun x hx hx2 => rows_in hr (nw2.2 x hx2) hx, ⟨fun z => pc pen (nw.2 c z), fun z => pc g2.2 (nw2.2 c z)⟩, (g2.2.up (by omega)).ex e3, (tabs_pen tabs pen g2).ext e3⟩
  refine s_forR1 (n := 3) (ea_cons ev_c ea_nil) ⟨by decide, by decide⟩ (fun j σ' H' => (∃ R', LawS K LT p c r tb rt as ast R' n (i * 10000 + 1000 + j * 1000) H') ∧ ∃ w5 w6 w7 w8 w9 w10 w11 w12 w13 w14 w15 w16 w17, σ' = [some (.ref a), some (.ref p), some (.int (i : Int)), some (.ref r), some (.ref tb), w5, w6, w7, w8, w9, w10, w11, w12, w13, w14, w15, w16, w17])
    (fun H4 e4 => ⟨⟨R, (S0.ex e4).up (by omega)⟩, w5, w6, w7, w8, w9, w10, w11, w12, w13, w14, w15, w16, w17, rfl⟩) (fun j σ' H' hj w => ?_) (fun σ' H' w => ?_)
  · obtain ⟨⟨R1, S⟩, w5, w6, w7, w8, w9, w10, w11, w12, w13, w14, w15, w16, w17, rfl⟩ := w
    have hj3 : j < 3 := by omega
    generalize hT : i * 10000 + 1000 + j * 1000 = T at S
    have hTT : T < 100000 := by omega
    refine q_few S (by omega) rfl rfl fun s0 l0 H4 hl0 hl03 hs0 S4 => ?_
    refine q_dbl S4 (by omega) rfl rfl hs0 hl0 hl03 fun s l H5 nas hl hl6 hs S5 => ?_
    refine q_due2 S5 rfl rfl hs hl hl6 fun due h L H6 e6 hdue gen hh => ?_
    have S6 := S5.ex e6
    have hs6 := e6 _ _ hs
    refine q_seen (h := h) (l := l) S6 (by omega) rfl rfl rfl hh hl fun H7 seen L2 H8 g7 nseen e8 hseen gen2 => ?_
    have eL := gen2.unique gen
    subst eL
    have S7 := S6.go g7
    have hs7 := g7.lst S6.pen hs6
    have hh7 := g7.lst S6.pen hh
    have hd7 := g7.lst S6.pen hdue
    have hop : ∀ x y, x < n → y < n → opOf R1 x y < n := fun x y hx hy => S.tbl.ok.lt hx hy
    have hLn : ∀ x ∈ L2, x < n := fun x hx => gen_lt hop hl ((gen.mem x).mp hx)
    have hLl : L2.length ≤ n := nodup_len (up_nodup gen.up) hLn
    refine q_same (seen := seen) (due := due) (h := h) (s := s) (L := L2) (l := l) rfl rfl rfl rfl hseen (e8 _ _ hd7) (e8 _ _ hh7) (e8 _ _ hs7) (fun x hx => by have := hLn x hx; omega) (by omega) fun H9 e9 => ?_
    refine q_app (seen := seen) (L := L2) rfl (e9 _ _ hseen) (by omega) fun o => ?_
    have e10 : Ex H7 (upd H9 seen (.lst o)) := Ex.mut (e8.trans e9) nseen
    refine q_parts (s := s) (due := due) (S7.ex e10) (by omega) rfl rfl rfl rfl rfl (e10 _ _ hs7) hl (by omega) (e10 _ _ hd7) hLn (by omega) fun H11 S11 hs11 => ?_
    refine q_atodd S11 (by omega) rfl rfl rfl hs11 hl6 fun d x H12 hx S12 hs12 => ?_
    refine q_bent (s := s) (l := l) (d := d) (x := x) rfl rfl rfl hs12 hl6 fun b H13 e13 hb => ?_
    have S13 := S12.ex e13
    have bad := bent_bad (d := d) hl hx
    refine q_triedGen S13 rfl rfl rfl hb bad fun H14 e14 T14 => ?_
    have S14 := S13.exN e14 T14
    refine q_triedPart S14 rfl rfl rfl (exN_lst e14 hb) bad fun H15 e15 T15 => ?_
    have S15 := S14.exN e15 T15
    have hs15 := exN_lst e15 (exN_lst e14 (e13 _ _ hs12))
    refine q_abc S15 (by omega) (fun _ => rfl) (fun _ => rfl) (fun _ => rfl) fun a1 b1 x1 H16 ha1 hb1 hx1 g16 => ?_
    have S16 := S15.go g16
    have hs16 := g16.lst S15.pen hs15
    refine q_setPair S16 ha1 hb1 hx1 rfl rfl rfl rfl rfl hs16 nas fun la H17 hla rows17 tbl17 pen17 tabs17 hs17 => ?_
    refine q_line (s := s) (l := l) S16.tbl.ok rows17 S16.nd tbl17 S16.dis S16.cas pen17 tabs17 ha1 hb1 hla rfl rfl rfl hs17 nas.1 fun H18 S18 hs18 => ?_
    exact s_last S18 rfl rfl rfl hs18 hl hl6 fun H19 S19 => ⟨⟨_, S19.up (by omega)⟩, _, _, _, _, _, _, _, _, _, _, _, _, _, rfl⟩
  · obtain ⟨⟨R1, S⟩, w5, w6, w7, w8, w9, w10, w11, w12, w13, w14, w15, w16, w17, rfl⟩ := w
    exact ⟨S.pen.up (by show i * 10000 + 1000 + (3 : Int).toNat * 1000 ≤ _; have : (3 : Int).toNat = 3 := rfl; omega), S.tabs, _, _, _, _, _, _, _, _, _, _, _, _, _, _, _, _, rfl⟩
end K28
end
section
namespace K28
open PySem PySem.Spec L2 PyProof.Rows
/-- a def whose code object is known -/
theorem okC {P : Program} {w : World} {K : PySem.W.Frag} {mg : Str → Option Value} {base : Heap} {x qual : Str} {params : Arguments} {body : List Stmt} {scope : Scope} {dvs : List V} {kws : List (Str × V)} {f : Addr} {fd : FuncData} {CX : CXT} {N ps : List Str} {k : Nat} {sp : Sp} {at_ : He.Defn} (F : FunD K x qual params body scope dvs kws f fd) (e : He.fAd K at_ = f) (S : FnScope N ps scope)
    (len : ∀ vs H Q E, sp vs H Q E → vs.length = ps.length)
    (hbody : ∀ (A : Around) (outer : List Env) (s : Shared) (H : Hp) (vs : List V) (Q : VK) (E : XK), Room k (A.deeper (envOfC qual scope s.heap.objs.size f (.ref (He.codeOf K at_)))) → sp vs H Q E →
      ∃ t, PSs (cxOf CX P w K mg base N qual scope f (.ref (He.codeOf K at_)) A outer s H E) body t ∧ t { nx := fun _ H' => Q .non H', rt := Q } (start N vs) H) : FnOk P w K mg base CX (k + 1) f fd ps sp := by
  obtain ⟨oc, od, dV, kV, doc, pm, an, cdv, ct, osl, rfl, lk, hcd, _, _⟩ := F.ex
  obtain ⟨c, rfl⟩ := He.codeIn_ref hcd
  have ec : He.codeOf K at_ = c := He.codeOf_eq (by rw [e]; exact lk) rfl
  subst ec
  exact fn_of lk hcd S len fun A outer s H vs Q E hr hsp => hbody A outer s H vs Q E hr hsp
theorem ok_law_part_right {P : Program} {w : World} {K : PySem.W.Frag} {mg : Str → Option Value} {base : Heap} (T : Txt P K mg) (hD : HasD K d_law_tried) (F : HasD K d_law_part_right)
    (G_law_once : Good P w K mg base 2 (He.ga K "_law_once") ["_law_items"] (sp_law_once K))
    (G_law_open_pair : Good P w K mg base 2 (He.ga K "_law_open_pair") ["_law_rows", "_law_kept"] (sp_law_open_pair K))
    (G_Tpart : Good P w K mg base 12 (mTab K "part") ["self", "values"] (sp_Tpart K))
    (G_law_rows_of_table : Good P w K mg base 12 (He.ga K "_law_rows_of_table") ["_law_made"] (sp_law_rows_of_table K))
    (G_law_rules_kept : Good P w K mg base 8 (He.ga K "_law_rules_kept") ["_law_rows"] (sp_law_rules_kept K))
    (G_Tstr : Good P w K mg base 2 (mTab K "__str__") ["self"] (sp_Tstr K))
    (G_law_rows_text : Good P w K mg base 2 (He.ga K "_law_rows_text") ["_law_rows"] (sp_law_rows_text K))
    (G_Trules : Good P w K mg base 8 (mTab K "rules") ["self"] (sp_Trules K))
    (G_Tsetitem : Good P w K mg base 9 (mTab K "__setitem__") ["self", "at", "worth"] (sp_Tsetitem K))
    {LAMT : List (Addr × Str)} {Pt : Addr} (TB : LamX.TabB base mg (He.codeOf K ("_law_part_right", none)) Pt) (hmT : (Pt, lamQ "_law_part_right") ∈ LAMT) (hu : ∀ p ∈ LAMT, p.1 = Pt → p.2 = lamQ "_law_part_right") :
    Good P w K mg base 22 (He.ga K "_law_part_right") ["_law_made", "_law_rows", "_law_some"] (sp_law_part_right K LAMT) := by
  obtain ⟨fd, F⟩ := F
  have F : FunD K "_law_part_right" "_law_part_right" (defArgs s_law_part_right) (defBody s_law_part_right) (defScope s_law_part_right) [] [] (He.ga K "_law_part_right") fd := F
  exact ⟨⟨fd, okC (at_ := ("_law_part_right", none)) F rfl sc_law_part_right (fun vs H Q E h => by obtain ⟨_, _, _, _, _, _, _, _, _, e, _⟩ := h; rw [e]; rfl) fun A outer s H vs Q E hr h => ⟨t_law_part_right K LAMT, w_law_part_right T hD G_law_once G_law_open_pair G_Tpart G_law_rows_of_table G_law_rules_kept G_Tstr G_law_rows_text G_Trules G_Tsetitem TB hmT hu hr, r_law_part_right vs H Q E h⟩, F.bindsN fun _ _ _ _ _ _ us hl => match us, hl with | [_, _, _], _ => rfl⟩, F.kp⟩
end K28
end
section
namespace K28
open PySem PySem.Spec L2 PyProof.Rows
theorem law_run {P : Program} {w : World} {K : PySem.W.Frag} {mg : Str → Option Value} {base : Heap} (T : Txt P K mg) (hD : HasD K d_law_tried) (F : HasD K d_law)
    (G_law_pen : Good P w K mg base 2 (He.ga K "_law_pen") ["_law_script"] (sp_law_pen K))
    (G_law_rows_drawn : Good P w K mg base 8 (He.ga K "_law_rows_drawn") ["_law_pen_here"] (sp_law_rows_drawn K))
    (G_law_table_of_rows : Good P w K mg base 12 (He.ga K "_law_table_of_rows") ["_law_rows"] (sp_law_table_of_rows K))
    (G_law_few : Good P w K mg base 4 (He.ga K "_law_few") ["_law_pen_here", "_law_items", "_law_span"] (sp_law_few K))
    (G_law_draw : Good P w K mg base 2 (He.ga K "_law_draw") ["_law_pen_here", "_law_span"] (sp_law_draw K))
    (G_law_closed_values : Good P w K mg base 4 (He.ga K "_law_closed_values") ["_law_rows", "_law_values"] (sp_law_closed_values K))
    (G_Tgenerated : Good P w K mg base 9 (mTab K "generated") ["self", "values"] (sp_Tgenerated K))
    (G_law_shuffled : Good P w K mg base 4 (He.ga K "_law_shuffled") ["_law_pen_here", "_law_items"] (sp_law_shuffled K))
    (G_law_pick : Good P w K mg base 4 (He.ga K "_law_pick") ["_law_pen_here", "_law_options"] (sp_law_pick K))
    (G_Tpart : Good P w K mg base 12 (mTab K "part") ["self", "values"] (sp_Tpart K))
    (G_Tsetitem : Good P w K mg base 9 (mTab K "__setitem__") ["self", "at", "worth"] (sp_Tsetitem K))
    {LAMT : List (Addr × Str)} {Pt : Addr} (TB : LamX.TabB base mg (He.codeOf K ("law", none)) Pt) (hmT : (Pt, lamQ "law") ∈ LAMT) (hu : ∀ p ∈ LAMT, p.1 = Pt → p.2 = lamQ "law")
    (G_law_part_right : Good P w K mg base 22 (He.ga K "_law_part_right") ["_law_made", "_law_rows", "_law_some"] (sp_law_part_right K LAMT))
    {A : Around} (hg0 : A.guards = some []) (hr : Room 28 A) {outer : List Env} {s : Shared} {H : Hp} {Q : VK} {E : XK} {a : Addr} (e0 : Env0 P w K mg base A outer s H) (h : sp_law K LAMT [.ref a] H Q E) :
    codeAny (model P w) A (.call (.ref (He.ga K "law")) ⟨[.ref a], []⟩) (CR (L2.CX P w) outer P w H s Q E) s := by
  obtain ⟨fd, F⟩ := F
  have F : FunD K "law" "law" (defArgs s_law) (defBody s_law) (defScope s_law) [] [] (He.ga K "law") fd := F
  have hb := F.bindsA (ps := ["_law_script"]) fun _ _ _ _ _ _ us hl => match us, hl with | [_], _ => rfl
  obtain ⟨oc, od, dV, kV, doc, pm, an, cdv, ct, osl, rfl, lk, hcd, _, _⟩ := F.ex
  obtain ⟨c, rfl⟩ := He.codeIn_ref hcd
  have ec : He.codeOf K ("law", none) = c := He.codeOf_eq (p := ("law", none)) lk rfl
  subst ec
  exact LamX.run_ofS (k := 27) (us := [.ref a]) (vs := [.ref a]) lk hcd sc_law hr e0 (hb s [.ref a] rfl) (.cons rfl .nil) rfl fun hr' => ⟨t_law K LAMT, w_law T hD G_law_pen G_law_rows_drawn G_law_table_of_rows G_law_few G_law_draw G_law_closed_values G_Tgenerated G_law_shuffled G_law_pick G_Tpart G_Tsetitem TB hmT hu G_law_part_right hg0 hr', r_law _ H Q E h⟩
end K28
end
section
namespace K28
open PySem PySem.Spec L2 PyProof.Rows LamX
/-! ### the end, the law's run told where it is called -/
/-- what may be followed when the law is called: its tables, and the script where the program does not hold it -/
def lawH (ts : List Addr) (a : Addr) (own : Bool) (vs : List Value) (ns : List Int) : Hp := fun b => if b ∈ ts then some (.tbl #[]) else if b = a ∧ own = false then some (.frz { cls := .type "list", data := .seq vs.toArray } (.lst (ns.map V.int))) else none
section
variable {ts : List Addr} {a b : Addr} {own : Bool} {vs : List Value} {ns : List Int}
theorem lawH_t (h : b ∈ ts) : lawH ts a own vs ns b = some (.tbl #[]) := if_pos h
theorem lawH_a (h : a ∉ ts) (h2 : own = false) : lawH ts a own vs ns a = some (.frz { cls := .type "list", data := .seq vs.toArray } (.lst (ns.map V.int))) := by
  unfold lawH
  rw [if_neg h, if_pos ⟨rfl, h2⟩]
theorem lawH_o (h : b ∉ ts) (h2 : ¬ (b = a ∧ own = false)) : lawH ts a own vs ns b = none := by
  unfold lawH
  rw [if_neg h, if_neg h2]
theorem lawH_cases (b : Addr) : (b ∈ ts ∧ lawH ts a own vs ns b = some (.tbl #[])) ∨ (b ∉ ts ∧ b = a ∧ own = false ∧ lawH ts a own vs ns b = some (.frz { cls := .type "list", data := .seq vs.toArray } (.lst (ns.map V.int)))) ∨ lawH ts a own vs ns b = none := by
  by_cases h : b ∈ ts
  · exact .inl ⟨h, lawH_t h⟩
  · by_cases h2 : b = a ∧ own = false
    · obtain ⟨rfl, h3⟩ := h2
      exact .inr (.inl ⟨h, rfl, h3, lawH_a h h3⟩)
    · exact .inr (.inr (lawH_o h h2))
end
section
variable {P : Program} {w : World} {K : PySem.W.Frag} {mg mb : Str → Option Value} {a : Addr} {cs : List (Addr × Addr)} {s₁ : Shared} {vs : List Value} {ns : List Int} {own : Bool}
/-- what is not followed stands in the ground -/
theorem lawH_get {b : Addr} {o : Obj} (ha : s₁.heap.get? a = some { cls := .type "list", data := .seq vs.toArray }) (hT : ∀ t ∈ cs.map (·.2), s₁.heap.get? t = some { cls := .none, data := .fields #[] }) (e : s₁.heap.get? b = some o) (h1 : ∀ vs n, o.data ≠ .seq vs n) (h2 : o.data ≠ .fields #[]) :
    (hidT s₁.heap (lawH (cs.map (·.2)) a own vs ns)).get? b = some o := by
  refine hidT_get e ?_
  rcases lawH_cases (ts := cs.map (·.2)) (a := a) (own := own) (vs := vs) (ns := ns) b with ⟨h, _⟩ | ⟨_, rfl, _, _⟩ | h
  · rw [hT b h] at e
    cases e
    exact (h2 rfl).elim
  · rw [ha] at e
    cases e
    exact (h1 _ _ rfl).elim
  · exact h
theorem lawH_ns {b : Addr} {m : Str → Option Value} (ha : s₁.heap.get? a = some { cls := .type "list", data := .seq vs.toArray }) (hT : ∀ t ∈ cs.map (·.2), s₁.heap.get? t = some { cls := .none, data := .fields #[] }) (h : s₁.heap.Ns b m) : (hidT s₁.heap (lawH (cs.map (·.2)) a own vs ns)).Ns b m := by
  obtain ⟨o, es, ep, e, d, r⟩ := h
  exact ⟨o, es, ep, lawH_get ha hT e (fun vs n z => by rw [d] at z; cases z) (fun z => by rw [d] at z; cases z), d, r⟩
end
end K28
end
section
namespace K28
open PySem PySem.Spec L2 PyProof.Rows LamX
section
variable {P : Program} {w : World} {K : PySem.W.Frag} {mg mb : Str → Option Value} {a : Addr} {cs : List (Addr × Addr)} {s₁ : Shared} {vs : List Value} {ns : List Int} {own : Bool}
/-- the ground's tables -/
theorem lawH_tab (ha : s₁.heap.get? a = some { cls := .type "list", data := .seq vs.toArray }) (hT : ∀ t ∈ cs.map (·.2), s₁.heap.get? t = some { cls := .none, data := .fields #[] }) (hns : s₁.heap.Ns mainGlobals mg) (C : ∀ p ∈ cs, PySem.W.CodeHd s₁.heap p.1 p.2)
    (hbm : ∃ (bm : Addr) (ob : Obj), mg "__builtins__" = some (.ref bm) ∧ bm ≠ builtinsNs ∧ s₁.heap.get? bm = some ob ∧ ob.cls = .type "module" ∧ ob.dict = some builtinsNs ∧ ob.data = .plain) :
    ∀ p ∈ cs, LamX.TabB (hidT s₁.heap (lawH (cs.map (·.2)) a own vs ns)) mg p.1 p.2 := fun p hp => by
  have hTp := hT p.2 (List.mem_map.mpr ⟨p, hp, rfl⟩)
  obtain ⟨og, eg, epg, eG, hdG, _⟩ := id hns
  refine ⟨?_, ?_, fun z => ?_⟩
  · obtain ⟨o, us, file, tf, flags, tg, inF, text, tt, e1, r1, r2, r3, rest⟩ := C p hp
    exact ⟨o, us, file, tf, flags, tg, inF, text, tt, lawH_get ha hT e1 (fun vs n z => by rw [r2] at z; cases z) (fun z => by rw [r2] at z; cases z; simp at r3), r1, r2, r3, rest⟩
  · obtain ⟨bm, ob, b1, b2, b3, b4, b5, b6⟩ := hbm
    refine ⟨bm, ob, b1, b2, fun q => ?_, fun q => ?_, lawH_get ha hT b3 (fun vs n z => by rw [b6] at z; cases z) (fun z => by rw [b6] at z; cases z), b4, b5, b6⟩
    · rw [q, eG] at b3
      cases b3
      rw [hdG] at b6
      cases b6
    · rw [q, hTp] at b3
      cases b3
      cases b6
  · rw [z, hTp] at eG
    cases eG
    cases hdG
/-- the ground holds K -/
theorem lawH_in (KX : K.In s₁.heap) (nT : ∀ p ∈ cs, K.lookup p.2 = none) (hK : own = false → K.lookup a = none) : K.In (hidT s₁.heap (lawH (cs.map (·.2)) a own vs ns)) := fun b o e => by
  refine hidT_get (KX b o e) ?_
  rcases lawH_cases (ts := cs.map (·.2)) (a := a) (own := own) (vs := vs) (ns := ns) b with ⟨h, _⟩ | ⟨_, rfl, h, _⟩ | h
  · obtain ⟨p, hp, rfl⟩ := List.mem_map.mp h
    rw [nT p hp] at e
    cases e
  · rw [hK h] at e
    cases e
  · exact h
theorem lawH_ok (ha : s₁.heap.get? a = some { cls := .type "list", data := .seq vs.toArray }) (hT : ∀ t ∈ cs.map (·.2), s₁.heap.get? t = some { cls := .none, data := .fields #[] }) (hi : IntsAre vs ns) (hl : ns.length ≤ sizeLine) : HOk P w (lawH (cs.map (·.2)) a own vs ns) s₁.heap := fun b u e => by
  rcases lawH_cases (ts := cs.map (·.2)) (a := a) (own := own) (vs := vs) (ns := ns) b with ⟨h, q⟩ | ⟨_, rfl, _, q⟩ | q
  · rw [q] at e
    cases e
    exact hT b h
  · rw [q] at e
    cases e
    exact ⟨ha, by rw [List.length_map]; exact hl, vs, _, vals_ints hi, ha⟩
  · rw [q] at e
    cases e
end
end K28
end
section
namespace K28
open PySem PySem.Spec L2 PyProof.Rows LamX
section
variable {P : Program} {w : World} {K : PySem.W.Frag} {mg mb : Str → Option Value} {CX : CXT} {fa a : Addr} {cs : List (Addr × Addr)} {s₁ : Shared} {vs : List Value} {ns : List Int}
/-- the call, the law's run told at callerA -/
theorem law_end (KX : K.In s₁.heap) (hns : s₁.heap.Ns mainGlobals mg) (hb : s₁.heap.Ns builtinsNs mb) (hbb : ∀ x : Str, x ≠ "__name__" → mb x = bootBuiltins x) (hlim : s₁.heap.NoLimit) (hg : s₁.gens = #[])
    (hT : ∀ t ∈ cs.map (·.2), s₁.heap.get? t = some { cls := .none, data := .fields #[] }) (nT : ∀ p ∈ cs, K.lookup p.2 = none) (C : ∀ p ∈ cs, PySem.W.CodeHd s₁.heap p.1 p.2)
    (hbm : ∃ (bm : Addr) (ob : Obj), mg "__builtins__" = some (.ref bm) ∧ bm ≠ builtinsNs ∧ s₁.heap.get? bm = some ob ∧ ob.cls = .type "module" ∧ ob.dict = some builtinsNs ∧ ob.data = .plain)
    (ha : s₁.heap.get? a = some { cls := .type "list", data := .seq vs.toArray }) (hi : IntsAre vs ns) (hl : ns.length ≤ sizeLine)
    (run : ∀ (base : Heap) (H : Hp), L2.Mod K mg base → (∀ p ∈ cs, LamX.TabB base mg p.1 p.2) → Env0 P w K mg base callerA [] s₁ H → (∀ p ∈ cs, H p.2 = some (.tbl #[])) → SqL K H a (ns.map V.int) →
      codeAny (model P w) callerA (.call (.ref fa) ⟨[.ref a], []⟩) (CR CX [] P w H s₁ (fun v _ => v = .bl true) fun _ _ _ => False) s₁)
    (hCX : ∀ H e s', CX [] H s₁ (fun _ _ _ => False) e s' → False) :
    codeAny (model P w) callerA (.call (.ref fa) ⟨[.ref a], []⟩) (fun r s' => r = .ok (.ret (.bool true)) ∧ OldK s₁.heap s'.heap ∧ s'.os = s₁.os ∧ AllBare s'.gens) s₁ := by
  have aT : a ∉ cs.map (·.2) := fun z => by
    have q := hT a z
    rw [ha] at q
    cases q
  obtain ⟨own, hown⟩ : ∃ own : Bool, (own = false → K.lookup a = none) ∧ (own = true → ∃ o, K.lookup a = some o) := by
    cases q : K.lookup a with
    | none => exact ⟨false, fun _ => rfl, fun z => nomatch z⟩
    | some o => exact ⟨true, (fun z => nomatch z), fun _ => ⟨o, rfl⟩⟩
  have ok := lawH_ok (P := P) (w := w) (own := own) ha hT hi hl
  have nsK : ∀ {b : Addr} {m : Str → Option Value}, s₁.heap.Ns b m → (hidT s₁.heap (lawH (cs.map (·.2)) a own vs ns)).Ns b m := fun h => lawH_ns ha hT h
  have hM : L2.Mod K mg (hidT s₁.heap (lawH (cs.map (·.2)) a own vs ns)) := ⟨lawH_in KX nT hown.1, nsK hns, ⟨mb, nsK hb, hbb⟩, let ⟨mc, h1, h2⟩ := hlim; ⟨mc, nsK h1, h2⟩⟩
  have e0 : Env0 P w K mg (hidT s₁.heap (lawH (cs.map (·.2)) a own vs ns)) callerA [] s₁ (lawH (cs.map (·.2)) a own vs ns) := ⟨rfl, hM, fun b o e => of_hidT e, Nat.le_of_eq (hidT_size _ _), trivial, fun b hb => absurd (show b ∈ ([] : List Addr) from hb) (by simp), ok, .of_eq hg⟩
  have tk : ∀ p ∈ cs, lawH (cs.map (·.2)) a own vs ns p.2 = some (.tbl #[]) := fun p hp => lawH_t (List.mem_map.mpr ⟨p, hp, rfl⟩)
  have sq : SqL K (lawH (cs.map (·.2)) a own vs ns) a (ns.map V.int) := by
    cases own with
    | false => exact .inl (.inr ⟨_, lawH_a aT rfl⟩)
    | true =>
      obtain ⟨o, ho⟩ := hown.2 rfl
      have e := KX a o ho
      rw [ha] at e
      cases e
      exact .inr ⟨_, vs.toArray, _, ho, rfl, rfl, rfl, by rw [List.size_toArray, hi.length]; exact hl, by simpa using vals_ints hi⟩
  refine codeAny_mono (run _ _ hM (lawH_tab ha hT hns C hbm) e0 tk sq) fun r s' h => ?_
  cases r with
  | error e => exact (hCX _ e s' h).elim
  | ok fl =>
    cases fl with
    | next => exact False.elim h
    | brk => exact False.elim h
    | cont => exact False.elim h
    | ret u =>
      obtain ⟨v, H', os, bare, un, ok', rv, q⟩ := h
      have q' : v = .bl true := q
      subst q'
      obtain rfl : u = Value.bool true := rv
      have stay : ∀ b o, b ∉ cs.map (·.2) → s₁.heap.get? b = some o → s'.heap.get? b = some o := fun b o nb e => by
        rcases lawH_cases (ts := cs.map (·.2)) (a := a) (own := own) (vs := vs) (ns := ns) b with ⟨z, _⟩ | ⟨_, rfl, _, z⟩ | z
        · exact absurd z nb
        · have z2 := un.frzs b _ _ z
          obtain ⟨e1, _⟩ := ok b _ z
          obtain ⟨e2, _⟩ := ok' b _ z2
          rw [e] at e1
          cases e1
          exact e2
        · exact un.keep b o e z (fun m => absurd (show b ∈ ([] : List Addr) from m) (by simp)) (by simp)
      have grown : ∀ p ∈ cs, ∃ more : Array Value, s'.heap.get? p.2 = some { cls := .none, data := .fields more } := fun p hp => by
        obtain ⟨more, z⟩ := un.tbls p.2 #[] (tk p hp)
        exact ⟨_, ok' p.2 _ z⟩
      refine ⟨rfl, ⟨fun b o e => ?_, fun b o e => ?_⟩, os, bare⟩
      · by_cases hb : b ∈ cs.map (·.2)
        · have hTb := hT b hb
          obtain ⟨p, hp, rfl⟩ := List.mem_map.mp hb
          obtain ⟨more, hm⟩ := grown p hp
          rw [hTb] at e
          cases e
          exact .inr (.inl ⟨((C p hp).tab hTb).isCodeTable, rfl, #[], more, rfl, by rw [Array.empty_append]; exact hm⟩)
        · exact .inl (stay b o hb e)
      · by_cases hb : b ∈ cs.map (·.2)
        · obtain ⟨p, hp, rfl⟩ := List.mem_map.mp hb
          obtain ⟨more, hm⟩ := grown p hp
          exact ⟨_, hm⟩
        · exact ⟨o, stay b o hb e⟩
end
end K28
end
section
namespace K28
open PySem PySem.Spec L2 PyProof.Rows
/-! ### what the head tells of an exception's __init__ -/
abbrev SupW : Type := Option (Str × Str × Arguments × FuncBody × Scope × Addr × List Str × Value × Addr)
def supW (K : PySem.W.Frag) (x : Str) : SupW := match K.lookup (He.ma K (He.ga K x) "__init__") with
  | some ⟨_, _, .func fd, _⟩ => some (fd.name, fd.qualname, fd.params, fd.body, fd.scope, fd.globals, fd.closure.map (·.1), fd.defaults, fd.builtins)
  | _ => none
def supV (qual : Str) (st : Stmt) : SupW := some ("__init__", qual, defArgs st, .stmts (defBody st), defScope st, mainGlobals, ["__class__"], .none, builtinsNs)
def cellB (K : PySem.W.Frag) (C : Addr) : List (Str × Addr) → Bool
  | [(_, cc)] => (match K.lookup cc with
    | some ⟨_, _, .cell (some v), _⟩ => decide (v = .ref C)
    | _ => false)
  | _ => false
def fileB (P : Program) (K : PySem.W.Frag) (qual : Str) : Value → Bool
  | .ref cda => PySem.W.codeIn K (.ref cda) qual && (match K.lookup cda with
    | some ⟨_, _, .fields cvs, _⟩ => (match (cvs[2]? : Option Value) with
      | some (.str file _) => (P.main.file : Str) == file
      | _ => false)
    | _ => false)
  | _ => false
def supB (P : Program) (K : PySem.W.Frag) (x qual : Str) : Bool := (match K.lookup (He.ma K (He.ga K x) "__init__") with
  | some ⟨_, _, .func fd, _⟩ => cellB K (He.ga K x) fd.closure && fileB P K qual fd.code
  | _ => false) && (decide (PySem.W.ks_superIn K (He.ga K x) (He.ga K x) "__init__" = some (some (.builtin "ValueError.__init__"))) && (decide (PySem.W.mroIn K (He.ga K x) (.ref (He.ga K x)) = some true) && (decide (PySem.W.subIn K (.ref (He.ga K x)) (.type "ValueError") = some true) &&
  ((PySem.W.clsIn K (He.ga K x)).isSome && (decide (PySem.W.nsIn K cStatics "thirdparty.any" = some none) && !(P.main.scope.names.lookup ("super" : Str)).isSome)))))
theorem cellB_ok {K : PySem.W.Frag} {C : Addr} {l : List (Str × Addr)} (h : cellB K C l = true) : ∃ (n : Str) (cc : Addr) (cl : Value) (cld : Option Addr) (csl : Array (Option Value)), l = [(n, cc)] ∧ K.lookup cc = some ⟨cl, cld, .cell (some (.ref C)), csl⟩ := by
  unfold cellB at h
  split at h
  · rename_i n cc
    split at h
    · rename_i cl cld v csl e
      rw [of_decide_eq_true h] at e
      exact ⟨n, cc, cl, cld, csl, rfl, e⟩
    · cases h
  · cases h
theorem fileB_ok {P : Program} {K : PySem.W.Frag} {qual : Str} {v : Value} (h : fileB P K qual v = true) : ∃ (cda : Addr) (ccl : Value) (cdd : Option Addr) (cvs : Array Value) (ccs : Array (Option Value)) (file : Str) (tf : Tok), v = .ref cda ∧ PySem.W.codeIn K (.ref cda) qual = true ∧
    K.lookup cda = some ⟨ccl, cdd, .fields cvs, ccs⟩ ∧ cvs[2]? = some (.str file tf) ∧ ((P.main.file : Str) == file) = true := by
  unfold fileB at h
  split at h
  · rename_i cda
    obtain ⟨h1, h2⟩ := Bool.and_eq_true_iff.mp h
    split at h2
    · rename_i ccl cdd cvs ccs e
      split at h2
      · rename_i file tf e2
        exact ⟨cda, ccl, cdd, cvs, ccs, file, tf, rfl, h1, e, e2, h2⟩
      · cases h2
    · cases h2
  · cases h
theorem sup_in {P : Program} {K : PySem.W.Frag} {x qual : Str} {st : Stmt} (e : supW K x = supV qual st) (h : supB P K x qual = true) : SupIn P K x qual st := by
  unfold supB at h
  obtain ⟨h1, h⟩ := Bool.and_eq_true_iff.mp h
  obtain ⟨h2, h⟩ := Bool.and_eq_true_iff.mp h
  obtain ⟨h3, h⟩ := Bool.and_eq_true_iff.mp h
  obtain ⟨h4, h⟩ := Bool.and_eq_true_iff.mp h
  obtain ⟨h5, h⟩ := Bool.and_eq_true_iff.mp h
  obtain ⟨h6, h7⟩ := Bool.and_eq_true_iff.mp h
  unfold supW supV at e
  split at h1
  · rename_i oc od fd osl q
    rw [q] at e
    obtain ⟨g1, g2⟩ := Bool.and_eq_true_iff.mp h1
    obtain ⟨n1, n2, n3, n4, n5, n6, n7, n8, n9, n10, n11, n12, n13, n14, n15⟩ := fd
    simp only [Option.some.injEq, Prod.mk.injEq] at e
    obtain ⟨rfl, rfl, rfl, rfl, rfl, rfl, e7, rfl, rfl⟩ := e
    obtain ⟨n, cc, cl, cld, csl, ec, lc⟩ := cellB_ok g1
    obtain ⟨cda, ccl, cdd, cvs, ccs, file, tf, ed, k1, k2, k3, k4⟩ := fileB_ok g2
    dsimp only at ec ed e7
    subst ec ed
    have en : n = "__class__" := by simpa using e7
    subst en
    refine ⟨_, ⟨oc, od, n9, n10, n11, n12, cda, cc, n14, osl, cl, ccl, cld, cdd, csl, ccs, cvs, file, tf, rfl, q, k1, lc, k2, k3, k4⟩, of_decide_eq_true h2, of_decide_eq_true h3, of_decide_eq_true h4, Option.isSome_iff_exists.mp h5, of_decide_eq_true h6, by simpa using h7⟩
  · cases h1
end K28
end
section
namespace K28
open PySem PySem.Spec L2 PyProof.Rows
theorem b2 {a b : Bool} (h : (a && b) = true) : a = true ∧ b = true := Bool.and_eq_true_iff.mp h
def excCB (K : PySem.W.Frag) (D : Addr) : Bool := decide (PySem.W.findIn K (.ref D) "__getattribute__" = some (some (.builtin "BaseException.__getattribute__"))) && (decide (PySem.W.findIn K (.ref D) "__getattr__" = some none) && (decide (PySem.W.subIn K (.ref D) (.type "BaseException") = some true) && (PySem.W.hasDictIn K D &&
  (decide (PySem.W.findIn K (.ref D) "__class__" = some (some (.builtin "object.__class__"))) && (decide (PySem.W.specialIn K (.builtin "object.__class__") "__get__" = some (some (.builtin "getset_descriptor.__get__"))) && (decide (PySem.W.takesIn K (.builtin "object.__class__") = some true) && decide (PySem.W.mroIn K D (.type "object") = some true)))))))
theorem excCB_ok {K : PySem.W.Frag} {D : Addr} (h : excCB K D = true) : ExcC K D := by
  obtain ⟨h1, h⟩ := b2 h
  obtain ⟨h2, h⟩ := b2 h
  obtain ⟨h3, h⟩ := b2 h
  obtain ⟨h4, h⟩ := b2 h
  obtain ⟨h5, h⟩ := b2 h
  obtain ⟨h6, h⟩ := b2 h
  obtain ⟨h7, h8⟩ := b2 h
  exact ⟨of_decide_eq_true h1, of_decide_eq_true h2, of_decide_eq_true h3, h4, of_decide_eq_true h5, of_decide_eq_true h6, of_decide_eq_true h7, of_decide_eq_true h8⟩
end K28
end
section
namespace K28
open PySem PySem.Spec L2 PyProof.Rows
/-- an exception's class as it stands -/
def oexKB (K : PySem.W.Frag) (C : Addr) : Bool := match K.lookup C with
  | some ⟨.type c, _, .cls cd, sl⟩ => decide (c = "type") && (match cd.mro, sl.toList with
    | .ref C' :: bm, [_, _, _, _, some (.builtin n), _] => C' == C && (n == "ValueError.__new__" && (!cd.hasDel && (cd.hasDict && PySem.HandSPX.refsVE bm)))
    | _, _ => false)
  | _ => false
theorem oexKB_ok {K : PySem.W.Frag} {C : Addr} (q : oexKB K C = true) : ∃ nm qn N bs bm sn sub ab col dd k0 k1 k2 k3 k5, K.lookup C = some (excClassObj nm qn C N bs bm true sn sub ab col dd k0 k1 k2 k3 k5 "ValueError.__new__") ∧ PySem.HandSPX.refsVE bm = true := by
  unfold oexKB at q
  split at q
  · rename_i c dd cd sl ho
    obtain ⟨hc, q⟩ := b2 q
    have hc := of_decide_eq_true hc
    split at q
    · rename_i C' bm k0 k1 k2 k3 n k5 hm hs
      simp only [Bool.and_eq_true, beq_iff_eq, Bool.not_eq_true'] at q
      obtain ⟨rfl, rfl, hdel, hdict, ht⟩ := q
      obtain ⟨nm, bs, mro, ns, qn, hd, sn, sub, ab, col, del⟩ := cd
      dsimp only at hm hdel hdict
      subst hm hdel hdict hc
      have hsl : sl = #[k0, k1, k2, k3, some (.builtin "ValueError.__new__"), k5] := by
        obtain ⟨l⟩ := sl
        simp only at hs
        rw [hs]
      subst hsl
      exact ⟨nm, qn, ns, bs, bm, sn, sub, ab, col, dd, k0, k1, k2, k3, k5, ho, ht⟩
    · cases q
  · cases q
end K28
end
section
namespace K28
open PySem PySem.Spec L2 PyProof.Rows
/-- all of ExT -/
def extB (K : PySem.W.Frag) (x : Str) : Bool := [oexKB K (He.ga K x), decide (PySem.W.findIn K (.ref (He.ga K x)) "__setattr__" = some (some (.builtin "object.__setattr__"))), decide (PySem.W.subIn K (.ref (He.ga K x)) (.type "BaseException") = some true), decide (PySem.W.typeIn K (.ref (He.ga K x)) = some (.type "type")), PySem.W.keepIn K (.ref (He.ga K x)),
  decide (PySem.W.findIn K (.ref (He.ga K x)) "__init__" = some (some (.ref (He.ma K (He.ga K x) "__init__")))), decide (PySem.W.typeIn K (.ref (He.ma K (He.ga K x) "__init__")) = some (.type "function")), xfB K (He.ga K x), excCB K (He.ga K x),
  exs.all (fun y => decide (PySem.W.exmOne K (.ref (He.ga K x)) (.ref (He.ga K y)) = some (decide (x = y)))), exs.all (fun y => decide (PySem.W.kitOne K (.ref (He.ga K x)) (.ref (He.ga K y)) = some (decide (x = y)))),
  decide (PySem.W.kitOne K (.ref (He.ga K x)) (.ref (He.ga K "FoldError")) = some true), decide (PySem.W.kitOne K (.ref (He.ga K x)) (.type "ValueError") = some true), PySem.W.keepIn K (.ref (He.ma K (He.ga K x) "__init__"))].all id
theorem extB_ok {K : PySem.W.Frag} {x : Str} (h : extB K x = true) : ExT K x ∧ PySem.W.keepIn K (.ref (He.ma K (He.ga K x) "__init__")) = true := by
  unfold extB at h
  simp only [List.all_cons, List.all_nil, Bool.and_true, id, Bool.and_eq_true] at h
  obtain ⟨h1, h2, h3, h4, h5, h6, h7, h8, h9, h10, h11, h12, h13, h14⟩ := h
  exact ⟨⟨⟨oexKB_ok h1, of_decide_eq_true h2, of_decide_eq_true h3, of_decide_eq_true h4, h5⟩, of_decide_eq_true h6, of_decide_eq_true h7, xfB_ok h8, excCB_ok h9, fun y hy => of_decide_eq_true (List.all_eq_true.mp h10 y hy), fun y hy => of_decide_eq_true (List.all_eq_true.mp h11 y hy), of_decide_eq_true h12, of_decide_eq_true h13⟩, h14⟩
end K28
end
section
namespace K28
open PySem PySem.Spec L2 PyProof.Rows
/-- the rest of what Txt asks -/
def moreB (K : PySem.W.Frag) : Bool := [He.tupB K "RULES" [.str "grouping", .str "order", .str "middle", .str "first", .str "last", .str "ends", .str "keep", .str "take", .str "vanish"], He.tupB K "GROUPED" [.str "grouping", .str "middle", .str "first", .str "last", .str "ends", .str "vanish"], He.tupB K "IDLE" [.str "middle", .str "first", .str "last", .str "ends"],
  decide (PySem.W.findIn K (.ref (cTab K)) "__getitem__" = some (some (.ref (mTab K "__getitem__")))), PySem.W.fnIn K (mTab K "__getitem__"), PySem.W.isFn K (.ref (mTab K "__getitem__")),
  decide (PySem.W.findIn K (.ref (cTab K)) "__setitem__" = some (some (.ref (mTab K "__setitem__")))), PySem.W.noSeq K (cTab K), PySem.W.isFn K (.ref (mTab K "__setitem__")),
  decide (PySem.W.findIn K (.ref (cTab K)) "__str__" = some (some (.ref (mTab K "__str__")))), PySem.W.isFn K (.ref (mTab K "__str__")),
  decide (PySem.W.findIn K (.ref (He.ga K "BadValue")) "value" = some none), decide (PySem.W.findIn K (.ref (He.ga K "BadSize")) "size" = some none), decide (PySem.W.findIn K (.ref (He.ga K "NotClosed")) "left" = some none), decide (PySem.W.findIn K (.ref (He.ga K "NotClosed")) "right" = some none)].all id
def faK : List He.Fa := (globs.map He.Fa.glo) ++ (frees.map He.Fa.free) ++ [.int "LARGEST" 60, .cls "Table", .noat "Table" "size", .noat "Table" "rows", .mkr "Table"] ++ (meths.map (He.Fa.meth "Table"))
theorem txt_of {P : Program} {K : PySem.W.Frag} {mg : Str → Option Value} {h : Heap} (X : K.In h) (G : h.Ns mainGlobals mg) (f : ∀ a ∈ faK, a.ok K = true) (e : ∀ x ∈ exs, extB K x = true) (m : moreB K = true) : Txt P K mg := by
  unfold moreB at m
  simp only [List.all_cons, List.all_nil, Bool.and_true, id, Bool.and_eq_true] at m
  obtain ⟨m1, m2, m3, m4, m5, m6, m7, m8, m9, m10, m11, m12, m13, m14, m15⟩ := m
  have fin : ∀ a, a ∈ faK → a.ok K = true := f
  refine ⟨fun x hx => He.free_ok X G (f _ (by unfold faK; simp [hx])), fun x hx => He.glo_ok X G (f _ (by unfold faK; simp [hx])), He.int_ok X G (f _ (by unfold faK; simp)), fun H => He.tupB_ok m1 H, fun H => He.tupB_ok m2 H, fun H => He.tupB_ok m3 H,
    He.cls_ok (f _ (by unfold faK; simp)), He.noat_ok (f (.noat "Table" "size") (by unfold faK; simp)), He.noat_ok (f (.noat "Table" "rows") (by unfold faK; simp)), fun y hy => He.meth_ok (f _ (by unfold faK; simp [hy])), He.mkr_ok (f _ (by unfold faK; simp)),
    ⟨of_decide_eq_true m4, m5, m6⟩, ⟨of_decide_eq_true m7, m8, m9⟩, ⟨of_decide_eq_true m10, m11⟩, fun x hx => (extB_ok (e x hx)).1, of_decide_eq_true m12, of_decide_eq_true m13, of_decide_eq_true m14, of_decide_eq_true m15⟩
end K28
end
section
namespace K28
open PySem PySem.Spec L2 PyProof.Rows
def fnK : List He.DefD := [d_put_row, d_equations_of, d_holds_for, d_Tinit, d_Tcheck, d_Tgetitem, d_Tsetitem, d_Tstr, d_Tbreaks, d_Trules, d_Tgenerated, d_Tpart, d_law_pen, d_law_draw, d_law_pick, d_law_shuffled, d_law_nine, d_law_few, d_law_from_left, d_law_equal_sides, d_law_triple_holds, d_law_first_break, d_law_rules_kept, d_law_shortened, d_law_word_rows, d_law_base_rows, d_law_twisted_rows, d_law_rows_drawn, d_law_table_of_rows, d_law_rows_of_table, d_law_closed_values, d_law_once, d_law_rows_text, d_law_open_pair, d_law_part_right, d_law, d_law_tried]
def tfK : List He.Defn := [("law", none), ("_law_part_right", none)]
def exK (P : Program) (K : PySem.W.Frag) : Bool := [exs.all (extB K), moreB K, supB P K "BadValue" "BadValue.__init__", supB P K "BadSize" "BadSize.__init__", supB P K "NotClosed" "NotClosed.__init__", decide ((He.cT K ("law", none)).2 ≠ (He.cT K ("_law_part_right", none)).2)].all id
abbrev AlK : Type := He.AlX × List SupW
def asK (g : Addr → Option Obj) (n : Nat) : List Addr := cStatics :: He.asD g n
def obsK (P : Program) (n : Nat) (g : Addr → Option Obj) : AlK := ((He.obsT faK fnK [] (He.frT g (asK g n)), exK P (He.frT g (asK g n)) && He.tabsB g tfK (He.frT g (asK g n))), [supW (He.frT g (asK g n)) "BadValue", supW (He.frT g (asK g n)) "BadSize", supW (He.frT g (asK g n)) "NotClosed"])
def valK (w : World) : AlK := (He.valX fnK [] w, [supV "BadValue.__init__" s_xV, supV "BadSize.__init__" s_xS, supV "NotClosed.__init__" s_xN])
structure SaysK (P : Program) (w : World) (h : Heap) (K : PySem.W.Frag) : Prop where
  x : He.SaysX faK fnK [] tfK (exK P) w h K
  v : supW K "BadValue" = supV "BadValue.__init__" s_xV
  s : supW K "BadSize" = supV "BadSize.__init__" s_xS
  n : supW K "NotClosed" = supV "NotClosed.__init__" s_xN
theorem saysK_of {P : Program} {n : Nat} {w : World} {h : Heap} (e : obsK P n h.get? = valK w) : SaysK P w h (He.frT h.get? (asK h.get? n)) := by
  have e1 : He.obsT faK fnK [] (He.frT h.get? (asK h.get? n)) = He.valT fnK [] w := congrArg (fun z : AlK => z.1.1) e
  have e2 : (exK P (He.frT h.get? (asK h.get? n)) && He.tabsB h.get? tfK (He.frT h.get? (asK h.get? n))) = true := congrArg (fun z : AlK => z.1.2) e
  have e3 : [supW (He.frT h.get? (asK h.get? n)) "BadValue", supW (He.frT h.get? (asK h.get? n)) "BadSize", supW (He.frT h.get? (asK h.get? n)) "NotClosed"] = [supV "BadValue.__init__" s_xV, supV "BadSize.__init__" s_xS, supV "NotClosed.__init__" s_xN] := congrArg (fun z : AlK => z.2) e
  obtain ⟨h1, h2⟩ := b2 e2
  have key : ∀ p ∈ tfK, PySem.W.codeHdIn (He.frT h.get? (asK h.get? n)) (He.cT (He.frT h.get? (asK h.get? n)) p).1 (He.cT (He.frT h.get? (asK h.get? n)) p).2 = true ∧ ∃ o, h.get? (He.cT (He.frT h.get? (asK h.get? n)) p).2 = some o ∧ He.emptyTab o = true := fun p hp => by
    obtain ⟨h3, h4⟩ := b2 (List.all_eq_true.mp h2 p hp)
    refine ⟨h3, ?_⟩
    cases q : h.get? (He.cT (He.frT h.get? (asK h.get? n)) p).2 with
    | none =>
      rw [q] at h4
      cases h4
    | some o =>
      rw [q] at h4
      exact ⟨o, rfl, h4⟩
  have l3 := List.cons.inj e3
  have l4 := List.cons.inj l3.2
  have l5 := List.cons.inj l4.2
  exact ⟨⟨e1, h1, fun p hp => (key p hp).1, fun p hp => by
    obtain ⟨_, o, q, z⟩ := key p hp
    exact He.frT_none q z, fun p hp => by
    obtain ⟨_, o, q, z⟩ := key p hp
    rw [q, He.emptyTab_eq z]⟩, l3.1, l4.1, l5.1⟩
def hookK (P : Program) (n : Nat) : PySem.W.Hook where
  α := AlK
  obs := fun s => obsK P n s.heap.get?
  val := valK
  says := fun w h => ∃ K : PySem.W.Frag, K.In h ∧ SaysK P w h K
  of := fun _ _ e => ⟨_, He.frT_in, saysK_of e⟩
  keeps := fun _ _ _ ⟨K, hK, c⟩ k => ⟨K, PySem.W.Frag.In.keeps hK k, ⟨⟨c.x.t, c.x.more, c.x.hd, c.x.out, fun p hp => k _ _ (c.x.empty p hp)⟩, c.v, c.s, c.n⟩⟩
theorem obsK_eq {P : Program} {n : Nat} {g : Addr → Option Obj} {s : Shared} (h : ∀ a, g a = s.heap.get? a) : obsK P n g = (hookK P n).obs s := by
  have e : g = s.heap.get? := funext h
  rw [e]
  rfl
end K28
end
section
namespace K28
open PySem PySem.Spec L2 PyProof.Rows
theorem law_told {P : Program} {w : World} {K : PySem.W.Frag} {mg : Str → Option Value} {h base : Heap} (X : K.In h) (G : h.Ns mainGlobals mg) (S : SaysK P w h K) (TB : ∀ p ∈ tfK.map (He.cT K), LamX.TabB base mg p.1 p.2)
    {s : Shared} {H : Hp} {Q : VK} {E : XK} {a : Addr} {ns : List Int} (e0 : Env0 P w K mg base callerA [] s H) (hT : ∀ p ∈ tfK.map (He.cT K), H p.2 = some (.tbl #[])) (hs : SqL K H a (ns.map V.int)) (hq : ∀ H1, Q (.bl true) H1) (hr : Room 28 callerA) :
    codeAny (model P w) callerA (.call (.ref (He.ga K "law")) ⟨[.ref a], []⟩) (CR (L2.CX P w) [] P w H s Q E) s := by
  have D := S.x.t.d
  have more := S.x.more
  unfold exK at more
  simp only [List.all_cons, List.all_nil, Bool.and_true, id, Bool.and_eq_true] at more
  obtain ⟨hx, hm, sV, sS, sN, ne⟩ := more
  have ne := of_decide_eq_true ne
  have T : Txt P K mg := txt_of X G (fun a ha => D.facts ha) (fun x hx2 => List.all_eq_true.mp hx x hx2) hm
  have hd : ∀ d, d ∈ fnK → HasD K d := fun d hd => D.defs hd
  have kp : ∀ x, x ∈ exs → PySem.W.keepIn K (.ref (He.ma K (He.ga K x) "__init__")) = true := fun x hx2 => (extB_ok (List.all_eq_true.mp hx x hx2)).2
  have hsm := T.free "super" (by decide +kernel)
  have X_BadValue : Good P w K mg base 2 _ _ _ := ok_xV T hsm (sup_in S.v sV) (kp "BadValue" (by decide +kernel))
  have X_BadSize : Good P w K mg base 2 _ _ _ := ok_xS T hsm (sup_in S.s sS) (kp "BadSize" (by decide +kernel))
  have X_NotClosed : Good P w K mg base 2 _ _ _ := ok_xN T hsm (sup_in S.n sN) (kp "NotClosed" (by decide +kernel))
  have G_put_row : Good P w K mg base 2 _ _ _ := ok_put_row (base := base) T (hd _ (by unfold fnK; simp only [List.mem_cons, true_or, or_true])) 
  have G_equations_of : Good P w K mg base 2 _ _ _ := ok_equations_of (base := base) T (hd _ (by unfold fnK; simp only [List.mem_cons, true_or, or_true])) 
  have G_holds_for : Good P w K mg base 4 _ _ _ := ok_holds_for (base := base) T (hd _ (by unfold fnK; simp only [List.mem_cons, true_or, or_true])) G_equations_of G_put_row
  have G_Tinit1 : Good1 P w K mg base 6 _ _ _ := ok_Tinit1 (base := base) T (hd _ (by unfold fnK; simp only [List.mem_cons, true_or, or_true])) X_BadSize
  have G_Tinit2 : Good P w K mg base 6 _ _ _ := ok_Tinit2 (base := base) T (hd _ (by unfold fnK; simp only [List.mem_cons, true_or, or_true])) X_BadSize
  have G_Tcheck : Good P w K mg base 6 _ _ _ := ok_Tcheck (base := base) T (hd _ (by unfold fnK; simp only [List.mem_cons, true_or, or_true])) X_BadValue
  have G_Tgetitem : Good P w K mg base 9 _ _ _ := ok_Tgetitem (base := base) T (hd _ (by unfold fnK; simp only [List.mem_cons, true_or, or_true])) G_Tcheck
  have G_Tsetitem : Good P w K mg base 9 _ _ _ := ok_Tsetitem (base := base) T (hd _ (by unfold fnK; simp only [List.mem_cons, true_or, or_true])) G_Tcheck
  have G_Tstr : Good P w K mg base 2 _ _ _ := ok_Tstr (base := base) T (hd _ (by unfold fnK; simp only [List.mem_cons, true_or, or_true])) 
  have G_Tbreaks : Good P w K mg base 6 _ _ _ := ok_Tbreaks (base := base) T (hd _ (by unfold fnK; simp only [List.mem_cons, true_or, or_true])) G_holds_for
  have G_Trules : Good P w K mg base 8 _ _ _ := ok_Trules (base := base) T (hd _ (by unfold fnK; simp only [List.mem_cons, true_or, or_true])) G_Tbreaks
  have G_Tgenerated : Good P w K mg base 9 _ _ _ := ok_Tgenerated (base := base) T (hd _ (by unfold fnK; simp only [List.mem_cons, true_or, or_true])) G_Tcheck
  have G_Tpart : Good P w K mg base 12 _ _ _ := ok_Tpart (base := base) T (hd _ (by unfold fnK; simp only [List.mem_cons, true_or, or_true])) G_Tcheck X_BadSize X_NotClosed G_Tinit2
  have G_law_pen : Good P w K mg base 2 _ _ _ := ok_law_pen (base := base) T (hd _ (by unfold fnK; simp only [List.mem_cons, true_or, or_true])) 
  have G_law_draw : Good P w K mg base 2 _ _ _ := ok_law_draw (base := base) T (hd _ (by unfold fnK; simp only [List.mem_cons, true_or, or_true])) 
  have G_law_pick : Good P w K mg base 4 _ _ _ := ok_law_pick (base := base) T (hd _ (by unfold fnK; simp only [List.mem_cons, true_or, or_true])) G_law_draw
  have G_law_shuffled : Good P w K mg base 4 _ _ _ := ok_law_shuffled (base := base) T (hd _ (by unfold fnK; simp only [List.mem_cons, true_or, or_true])) G_law_draw
  have G_law_nine : Good P w K mg base 2 _ _ _ := ok_law_nine (base := base) T (hd _ (by unfold fnK; simp only [List.mem_cons, true_or, or_true])) 
  have G_law_few : Good P w K mg base 4 _ _ _ := ok_law_few (base := base) T (hd _ (by unfold fnK; simp only [List.mem_cons, true_or, or_true])) G_law_draw
  have G_law_from_left : Good P w K mg base 2 _ _ _ := ok_law_from_left (base := base) T (hd _ (by unfold fnK; simp only [List.mem_cons, true_or, or_true])) 
  have G_law_equal_sides : Good P w K mg base 2 _ _ _ := ok_law_equal_sides (base := base) T (hd _ (by unfold fnK; simp only [List.mem_cons, true_or, or_true])) 
  have G_law_triple_holds : Good P w K mg base 4 _ _ _ := ok_law_triple_holds (base := base) T (hd _ (by unfold fnK; simp only [List.mem_cons, true_or, or_true])) G_law_equal_sides G_law_from_left
  have G_law_first_break : Good P w K mg base 6 _ _ _ := ok_law_first_break (base := base) T (hd _ (by unfold fnK; simp only [List.mem_cons, true_or, or_true])) G_law_triple_holds
  have G_law_rules_kept : Good P w K mg base 8 _ _ _ := ok_law_rules_kept (base := base) T (hd _ (by unfold fnK; simp only [List.mem_cons, true_or, or_true])) G_law_nine G_law_first_break
  have G_law_shortened : Good P w K mg base 2 _ _ _ := ok_law_shortened (base := base) T (hd _ (by unfold fnK; simp only [List.mem_cons, true_or, or_true])) 
  have G_law_word_rows : Good P w K mg base 4 _ _ _ := ok_law_word_rows (base := base) T (hd _ (by unfold fnK; simp only [List.mem_cons, true_or, or_true])) G_law_shortened
  have G_law_base_rows : Good P w K mg base 6 _ _ _ := ok_law_base_rows (base := base) T (hd _ (by unfold fnK; simp only [List.mem_cons, true_or, or_true])) G_law_draw G_law_word_rows
  have G_law_twisted_rows : Good P w K mg base 6 _ _ _ := ok_law_twisted_rows (base := base) T (hd _ (by unfold fnK; simp only [List.mem_cons, true_or, or_true])) G_law_shuffled
  have G_law_rows_drawn : Good P w K mg base 8 _ _ _ := ok_law_rows_drawn (base := base) T (hd _ (by unfold fnK; simp only [List.mem_cons, true_or, or_true])) G_law_twisted_rows G_law_base_rows G_law_draw
  have G_law_table_of_rows : Good P w K mg base 12 _ _ _ := ok_law_table_of_rows (base := base) T (hd _ (by unfold fnK; simp only [List.mem_cons, true_or, or_true])) G_Tinit1 G_Tsetitem
  have G_law_rows_of_table : Good P w K mg base 12 _ _ _ := ok_law_rows_of_table (base := base) T (hd _ (by unfold fnK; simp only [List.mem_cons, true_or, or_true])) G_Tgetitem
  have G_law_once : Good P w K mg base 2 _ _ _ := ok_law_once (base := base) T (hd _ (by unfold fnK; simp only [List.mem_cons, true_or, or_true])) 
  have G_law_closed_values : Good P w K mg base 4 _ _ _ := ok_law_closed_values (base := base) T (hd _ (by unfold fnK; simp only [List.mem_cons, true_or, or_true])) G_law_once
  have G_law_rows_text : Good P w K mg base 2 _ _ _ := ok_law_rows_text (base := base) T (hd _ (by unfold fnK; simp only [List.mem_cons, true_or, or_true])) 
  have G_law_open_pair : Good P w K mg base 2 _ _ _ := ok_law_open_pair (base := base) T (hd _ (by unfold fnK; simp only [List.mem_cons, true_or, or_true])) 
  have m1 : He.cT K ("law", none) ∈ tfK.map (He.cT K) := List.mem_map.mpr ⟨_, List.mem_cons_self, rfl⟩
  have m2 : He.cT K ("_law_part_right", none) ∈ tfK.map (He.cT K) := List.mem_map.mpr ⟨_, List.mem_cons_of_mem _ List.mem_cons_self, rfl⟩
  have TB1 : LamX.TabB base mg (He.codeOf K ("law", none)) (He.cT K ("law", none)).2 := TB _ m1
  have TB2 : LamX.TabB base mg (He.codeOf K ("_law_part_right", none)) (He.cT K ("_law_part_right", none)).2 := TB _ m2
  have u1 : ∀ p ∈ [((He.cT K ("law", none)).2, lamQ "law"), ((He.cT K ("_law_part_right", none)).2, lamQ "_law_part_right")], p.1 = (He.cT K ("law", none)).2 → p.2 = lamQ "law" := fun p hp e => by
    rcases List.mem_cons.mp hp with rfl | hp
    · rfl
    · rw [List.mem_singleton] at hp
      subst hp
      exact absurd e.symm ne
  have u2 : ∀ p ∈ [((He.cT K ("law", none)).2, lamQ "law"), ((He.cT K ("_law_part_right", none)).2, lamQ "_law_part_right")], p.1 = (He.cT K ("_law_part_right", none)).2 → p.2 = lamQ "_law_part_right" := fun p hp e => by
    rcases List.mem_cons.mp hp with rfl | hp
    · exact absurd e ne
    · rw [List.mem_singleton] at hp
      rw [hp]
  have hD : HasD K d_law_tried := hd _ (by unfold fnK; simp only [List.mem_cons, true_or, or_true])
  have G_law_part_right := ok_law_part_right (base := base) T hD (hd _ (by unfold fnK; simp only [List.mem_cons, true_or, or_true])) G_law_once G_law_open_pair G_Tpart G_law_rows_of_table G_law_rules_kept G_Tstr G_law_rows_text G_Trules G_Tsetitem TB2 (List.mem_cons_of_mem _ List.mem_cons_self) u2
  refine law_run T hD (hd _ (by unfold fnK; simp only [List.mem_cons, true_or, or_true])) G_law_pen G_law_rows_drawn G_law_table_of_rows G_law_few G_law_draw G_law_closed_values G_Tgenerated G_law_shuffled G_law_pick G_Tpart G_Tsetitem TB1 List.mem_cons_self u1 G_law_part_right rfl hr e0 ⟨a, ns, rfl, hs, fun p hp => ?_, hq⟩
  rcases List.mem_cons.mp hp with rfl | hp
  · exact LamX.TabS.nil (hT _ m1)
  · rw [List.mem_singleton] at hp
    subst hp
    exact LamX.TabS.nil (hT _ m2)
end K28
end
section
namespace K28
open PySem PySem.Spec PyProof.Rows L2
abbrev R : PySem.W.OpenRow := PySem.W.OpenLaw.row PySem.Challenge.rw_foldplans_k28_whole_parts_of_tables
abbrev hk : PySem.W.Hook := hookK R.prog 5
def obK (s : PySem.W.SharedT) : AlK := obsK R.prog 5 (HandSHeadRun.getT s)
theorem obK_eq (s : PySem.W.SharedT) : obK s = hk.obs s.abs := obsK_eq (HandSHeadRun.getT_eq s)
def namesK : List PySem.Str := (["_wall", "FoldError", "NoRule", "BadTable", "BadValue", "BadSize", "NotClosed", "RULES", "lines_of", "words_of", "LARGEST", "GROUPED", "IDLE", "put_row", "equations_of", "holds_for", "Table", "_law_pen", "_law_draw", "_law_pick"] : List PySem.Str) ++
  (["_law_shuffled", "_law_nine", "_law_few", "_law_from_left", "_law_equal_sides", "_law_triple_holds", "_law_first_break", "_law_rules_kept", "_law_shortened", "_law_word_rows", "_law_base_rows", "_law_twisted_rows", "_law_rows_drawn", "_law_table_of_rows", "_law_rows_of_table", "_law_closed_values", "_law_once", "_law_rows_text", "_law_tried", "_law_open_pair", "_law_part_right"] : List PySem.Str)
theorem law_fa : He.Fa.glo "law" ∈ faK := by
  have h : ("law" : PySem.Str) ∈ globs := by decide +kernel
  unfold faK
  simp [h]
theorem runK (w : World) : HandSHeadRun.RunEq R (PySem.W.view R.prog [45]) hk obK 6000 namesK w := by
  intro os
  kernel_rfl
end K28
end
section
open PySem PySem.W PySem.Calls PyProof.Rows
theorem PySem.Challenge.cw_foldplans_k28_whole_parts_of_tables_holds : PySem.Challenge.rw_foldplans_k28_whole_parts_of_tables.Holds := by
  w_on; o_law
  refine HandSHeadRun.head_any (r := OpenLaw.row PySem.Challenge.rw_foldplans_k28_whole_parts_of_tables) (q := view (OpenLaw.row PySem.Challenge.rw_foldplans_k28_whole_parts_of_tables).prog [45]) (H := K28.hk) (ob := K28.obK) (M := 6000) (loose := K28.namesK) (d := HandSHeadRun.topDef (OpenLaw.row PySem.Challenge.rw_foldplans_k28_whole_parts_of_tables).prog 45) (kwd := []) K28.obK_eq
    (by kernel_rfl) (fun s => by kernel_rfl) K28.runK (by kernel_rfl) (by kernel_rfl) (by kernel_rfl) (by rfl) (by first | assumption | decide +kernel) (by decide +kernel) ⟨rfl, rfl, rfl, rfl, rfl, by decide +kernel⟩ ?hw ?hc
  case hw => w_witness2
  case hc =>
    refine Att.attach_callB (l := PySem.Challenge.rw_foldplans_k28_whole_parts_of_tables) (n := 63) rfl (by kernel_rfl) fun w s₀ s₁ mg mb fa o pm cd doc a vs ns G Y ho hd hcd hmg0 hobj hints hlen hbits hg => ?_
    obtain ⟨K, KX, S⟩ := Y
    have hmg : mg ("law" : PySem.Str) = some (.ref fa) := by
      have e : (HandSHeadRun.topDef (OpenLaw.row PySem.Challenge.rw_foldplans_k28_whole_parts_of_tables).prog 45).name = ("law" : PySem.Str) := by kernel_rfl
      rw [← e]
      exact hmg0
    have D := S.x.t.d
    have e := hmg.symm.trans (He.glo_ok KX G.T.g (D.facts (f := .glo "law") K28.law_fa))
    cases e
    have hT : ∀ t ∈ (K28.tfK.map (He.cT K)).map (·.2), s₁.heap.get? t = some { cls := .none, data := .fields #[] } := fun t ht => by
      obtain ⟨p, hp, rfl⟩ := List.mem_map.mp ht
      obtain ⟨q, hq, rfl⟩ := List.mem_map.mp hp
      exact S.x.empty q hq
    have nT : ∀ p ∈ K28.tfK.map (He.cT K), K.lookup p.2 = none := fun p hp => by
      obtain ⟨q, hq, rfl⟩ := List.mem_map.mp hp
      exact S.x.out q hq
    have C : ∀ p ∈ K28.tfK.map (He.cT K), PySem.W.CodeHd s₁.heap p.1 p.2 := fun p hp => by
      obtain ⟨q, hq, rfl⟩ := List.mem_map.mp hp
      exact PySem.W.codeHd_of_K KX (S.x.hd q hq)
    refine K28.law_end (P := K28.R.prog) (CX := L2.CX K28.R.prog w) KX G.T.g G.T.b G.T.builtins G.T.nolimit hg hT nT C G.T.bmain hobj hints (Nat.le_trans hlen (by decide)) (fun base H M TB e0 tk sq => ?_) fun H e s' h => ?_
    · exact K28.law_told KX G.T.g S TB e0 tk sq (fun _ => rfl) ⟨rfl, by decide, by decide⟩
    · obtain ⟨_, _, _, _, _, _, _, _, _, _, _, _, z⟩ := h
      exact z
end
